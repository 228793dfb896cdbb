import PyProof.Rows.All
import Wide.All
import OpenK.AllK
import Wide.FinOn
import HandS.ForMost
import HandS.Exc
import HandS.ExcOwn
import HandS.ExcInit
import HandS.TryOnly
import HandS.TryMany
import HandS.WordsExc
import HandS.IsInst
import HandS.TupAny
import HandS.Conv
import HandS.Wide
import HandS.Property
import HandS.ClsMeth
import HandS.Star
import HandS.ExcCtx
import HandS.HotCalls
import HandS.Deep
import HandS.TupLe
import HandS.Style
import KE.GoesEnumKw
import HandS.Zip
import HandS.SortRule
import HandS.SortInts
import HandS.WordsDict
import HandS.TupLen
import HandS.RaiseMore
import HandS.More
import HandS.Nested
import KE.KSuper
import KE.KExcSuper
import HandS.ExcIs
import HandS.ExcField
import KE.DataMinMax
import HandS.NoneIn
import HandS.SortKw
import HandS.RevRange
import KE.KTryMore
import PyProof.Rows.CatchTuple
import HandS.FStr
import PyProof.Rows.RegStrFacts
import HandS.TupMul
import KE.KRevSl
import HandS.Rev
import KE.DataFind
import KE.KStateDown
import HandS.Head0
import HandS.Head1
import HandS.Head2
import HandS.HeadEnd
import HandS.HeadHook1
import HandS.HeadHook2
import PyProof.TupleOfSeq
import KE.KDictSum
import HandS.ExcValue
import PySem.Challenge.RW_withincall_k00_pipelines_checked
set_option Elab.async false
set_option linter.all false
set_option maxRecDepth 100000
set_option maxHeartbeats 1000000
namespace L2
open PySem PySem.Spec PyProof.Rows
theorem passN {X : Cx} : Passes (L2N.CX X.prog X.w) X E0 := fun _ _ _ _ _ _ _ h => by
  obtain ⟨_, _, _, _, _, _, _, _, _, _, _, _, z⟩ := h
  exact z.elim
theorem takesN0 {X : Cx} : L2N.Takes X (fun _ _ _ _ => False) := fun _ _ x => by
  obtain ⟨_, _, _, _, _, _, _, _, _, _, _, _, _, _, _, _, z⟩ := x
  exact z.elim
theorem cxUpN {P : Program} {w : World} : StX.CXUp (L2N.CX P w) := by
  rintro outer s H s2 H2 E e s' un kp ho ⟨a, B, H', cls, d, ea, fl, hok, ub, na, os, ag, he⟩
  refine ⟨a, B, H', cls, d, ea, fl, hok, ⟨fun b o q n hb => ub.keep b o (kp b o q) (un.free b o q n (by simp)) hb, fun b o q hb => ub.slot b o (kp b o q) hb, fun b o q n => ub.free b o (kp b o q) (un.free b o q n (by simp)),
    fun b o q hb => ub.there b o (kp b o q) hb, fun b xs q => ub.tups b xs (un.tups b xs q), fun b o xs q => ub.frzs b o xs (un.frzs b o xs q), fun b ps q => ?_⟩, na, os.trans ho, ag, he⟩
  obtain ⟨m1, e1⟩ := un.tbls b ps q
  obtain ⟨m2, e2⟩ := ub.tbls b _ e1
  exact ⟨m1 ++ m2, by rw [e2, Array.append_assoc]⟩
end L2
namespace FI
open PySem L2
inductive D where
  | non
  | bl (b : Bool)
  | int (i : Int)
  | str (s : Str)
  | tup (xs : List D)
  | kt (xs : List D)
  | kl (xs : List D)
  | ref (n : Nat)
  | glb (x : Str)
  | ty (n : String)
  /-- an exception, kept: its class, its fields' numbers, their values -/
  | xo (c : Nat) (ks : List Nat) (ds : List D)
inductive O where
  | lst (xs : List D)
  | dK (kvs : List (Key × D))
  | dT (kvs : List (List Key × D))
  /-- the same, walked just now: not written -/
  | dF (kvs : List (List Key × D))
  | ins (c : Nat) (fs : List (Nat × D))
structure Exc where
  c : Nat
  fs : List (Nat × D)
abbrev Hh := List O
abbrev Sg := List (Option D)
structure Gm where
  P : Program
  w : World
  K : PySem.W.Frag
  mg : Str → Option Value
  base : Heap
  cls : Nat → Addr
  fld : Nat → Str
  nf : Nat
  inj : ∀ a b, a < nf → b < nf → fld a = fld b → a = b
  hx : Option (Nat × Addr × Value × Option Addr × Exc) := none
def SqF (K : PySem.W.Frag) (H : Hp) (a : Addr) (xs : List V) : Prop :=
  (∃ o, H a = some (.frz o (.lst xs))) ∨
    ∃ (o : Obj) (its : Array Value) (n : Nat), K.lookup a = some o ∧ o.cls = .type "list" ∧ o.dict = none ∧ o.data = .seq its n ∧ its.size ≤ sizeLine ∧ Vals xs its.toList
theorem SqF.sq {K : PySem.W.Frag} {H : Hp} {a : Addr} {xs : List V} (h : SqF K H a xs) : SqL K H a xs := by
  rcases h with ⟨o, h⟩ | h
  · exact .inl (.inr ⟨o, h⟩)
  · exact .inr h
def SqK (K : PySem.W.Frag) (a : Addr) (xs : List V) : Prop :=
  ∃ (o : Obj) (its : Array Value) (n : Nat), K.lookup a = some o ∧ o.cls = .type "tuple" ∧ o.dict = none ∧ o.data = .seq its n ∧ its.size ≤ sizeLine ∧ Vals xs its.toList
theorem SqK.sq {K : PySem.W.Frag} {H : Hp} {a : Addr} {xs : List V} (h : SqK K a xs) : SqT K H a xs := .inr (let ⟨o, its, n, h1, h2, _, h3⟩ := h; ⟨o, its, n, h1, h2, h3⟩)
def SqKF (K : PySem.W.Frag) (H : Hp) (a : Addr) (xs : List V) : Prop := (∃ o : Obj, o.cls = .type "tuple" ∧ o.dict = none ∧ H a = some (.frz o (.tup xs))) ∨ SqK K a xs
theorem SqKF.sq {K : PySem.W.Frag} {H : Hp} {a : Addr} {xs : List V} (h : SqKF K H a xs) : SqT K H a xs := by
  rcases h with ⟨o, _, _, h⟩ | h
  · exact .inl (.inr ⟨o, h⟩)
  · exact h.sq
mutual
inductive RelD (g : Gm) (ι : List Addr) (H : Hp) : D → V → Prop
  | non : RelD g ι H .non .non
  | bl (b : Bool) : RelD g ι H (.bl b) (.bl b)
  | int (i : Int) : RelD g ι H (.int i) (.int i)
  | str (s : Str) : RelD g ι H (.str s) (.str s)
  | tup {xs : List D} {a : Addr} {vs : List V} : H a = some (.tup vs) → RelDs g ι H xs vs → RelD g ι H (.tup xs) (.ref a)
  | kt {xs : List D} {a : Addr} {vs : List V} : SqKF g.K H a vs → RelDs g ι H xs vs → RelD g ι H (.kt xs) (.ref a)
  | kl {xs : List D} {a : Addr} {vs : List V} : SqF g.K H a vs → RelDs g ι H xs vs → RelD g ι H (.kl xs) (.ref a)
  | ref {n : Nat} {a : Addr} : ι[n]? = some a → RelD g ι H (.ref n) (.ref a)
  | glb {x : Str} {a : Addr} : g.mg x = some (.ref a) → RelD g ι H (.glb x) (.ref a)
  | ty (n : String) : RelD g ι H (.ty n) (.ty n)
  | xo {c : Nat} {ks : List Nat} {ds : List D} {a dd : Addr} {oe : Obj} {vs : List V} : H a = some (.frz oe (.own a)) → oe.cls = .ref (g.cls c) → (∃ us : Array Value, oe.data = .fields us) → oe.dict = some dd → H dd = some (.xd ((ks.map g.fld).zip vs)) → (∀ k ∈ ks, k < g.nf) → ks.length = ds.length → RelDs g ι H ds vs → RelD g ι H (.xo c ks ds) (.ref a)
inductive RelDs (g : Gm) (ι : List Addr) (H : Hp) : List D → List V → Prop
  | nil : RelDs g ι H [] []
  | cons {d : D} {ds : List D} {v : V} {vs : List V} : RelD g ι H d v → RelDs g ι H ds vs → RelDs g ι H (d :: ds) (v :: vs)
end
structure Stw (g : Gm) (ι : List Addr) (H : Hp) (ι' : List Addr) (H' : Hp) : Prop where
  pre : ∃ t, ι' = ι ++ t
  tup : ∀ a xs, H a = some (.tup xs) → H' a = some (.tup xs)
  frz : ∀ a o u, (∀ q, u ≠ HO.dT q) → H a = some (.frz o u) → H' a = some (.frz o u)
  xd : ∀ a fs, H a = some (.xd fs) → H' a = some (.xd fs)
structure Stp (g : Gm) (ι : List Addr) (H : Hp) (ι' : List Addr) (H' : Hp) : Prop where
  pre : ∃ t, ι' = ι ++ t
  tup : ∀ a xs, H a = some (.tup xs) → H' a = some (.tup xs)
  frz : ∀ a o u, H a = some (.frz o u) → H' a = some (.frz o u)
  xd : ∀ a fs, H a = some (.xd fs) → H' a = some (.xd fs)
theorem Stp.w {g : Gm} {ι ι' : List Addr} {H H' : Hp} (s : Stp g ι H ι' H') : Stw g ι H ι' H' := ⟨s.pre, s.tup, fun a o u _ h => s.frz a o u h, s.xd⟩
theorem Stp.refl (g : Gm) (ι : List Addr) (H : Hp) : Stp g ι H ι H := ⟨⟨[], by simp⟩, fun _ _ h => h, fun _ _ _ h => h, fun _ _ h => h⟩
theorem Stp.trans {g : Gm} {ι ι1 ι2 : List Addr} {H H1 H2 : Hp} (a : Stp g ι H ι1 H1) (b : Stp g ι1 H1 ι2 H2) : Stp g ι H ι2 H2 := by
  obtain ⟨t, e⟩ := a.pre
  obtain ⟨t2, e2⟩ := b.pre
  exact ⟨⟨t ++ t2, by rw [e2, e, List.append_assoc]⟩, fun x xs h => b.tup x xs (a.tup x xs h), fun x o u h => b.frz x o u (a.frz x o u h), fun x fs h => b.xd x fs (a.xd x fs h)⟩
theorem Stw.at {g : Gm} {ι ι' : List Addr} {H H' : Hp} (s : Stw g ι H ι' H') {n : Nat} {a : Addr} (h : ι[n]? = some a) : ι'[n]? = some a := by
  obtain ⟨t, e⟩ := s.pre
  rw [e, List.getElem?_append_left (List.getElem?_eq_some_iff.mp h).1]
  exact h
theorem Stw.sqf {g : Gm} {ι ι' : List Addr} {H H' : Hp} (s : Stw g ι H ι' H') {a : Addr} {xs : List V} (h : SqF g.K H a xs) : SqF g.K H' a xs := by
  rcases h with ⟨o, h⟩ | h
  · exact .inl ⟨o, s.frz _ _ _ (fun _ z => by cases z) h⟩
  · exact .inr h
theorem Stw.sqk {g : Gm} {ι ι' : List Addr} {H H' : Hp} (s : Stw g ι H ι' H') {a : Addr} {xs : List V} (h : SqKF g.K H a xs) : SqKF g.K H' a xs := by
  rcases h with ⟨o, c, d, h⟩ | h
  · exact .inl ⟨o, c, d, s.frz _ _ _ (fun _ z => by cases z) h⟩
  · exact .inr h
mutual
theorem RelD.monoW {g : Gm} {ι ι' : List Addr} {H H' : Hp} (s : Stw g ι H ι' H') : ∀ {d : D} {v : V}, RelD g ι H d v → RelD g ι' H' d v
  | _, _, .non => .non
  | _, _, .bl b => .bl b
  | _, _, .int i => .int i
  | _, _, .str x => .str x
  | _, _, .tup h r => .tup (s.tup _ _ h) (RelDs.monoW s r)
  | _, _, .kt h r => .kt (s.sqk h) (RelDs.monoW s r)
  | _, _, .kl h r => .kl (s.sqf h) (RelDs.monoW s r)
  | _, _, .ref h => .ref (s.at h)
  | _, _, .glb h => .glb h
  | _, _, .ty n => .ty n
  | _, _, .xo h1 h2 h0 h3 h4 h5 h6 r => .xo (s.frz _ _ _ (fun _ z => nomatch z) h1) h2 h0 h3 (s.xd _ _ h4) h5 h6 (RelDs.monoW s r)
theorem RelDs.monoW {g : Gm} {ι ι' : List Addr} {H H' : Hp} (s : Stw g ι H ι' H') : ∀ {ds : List D} {vs : List V}, RelDs g ι H ds vs → RelDs g ι' H' ds vs
  | _, _, .nil => .nil
  | _, _, .cons a b => .cons (RelD.monoW s a) (RelDs.monoW s b)
end
theorem Stp.at {g : Gm} {ι ι' : List Addr} {H H' : Hp} (s : Stp g ι H ι' H') {n : Nat} {a : Addr} (h : ι[n]? = some a) : ι'[n]? = some a := s.w.at h
theorem Stp.sqf {g : Gm} {ι ι' : List Addr} {H H' : Hp} (s : Stp g ι H ι' H') {a : Addr} {xs : List V} (h : SqF g.K H a xs) : SqF g.K H' a xs := s.w.sqf h
theorem Stp.sqk {g : Gm} {ι ι' : List Addr} {H H' : Hp} (s : Stp g ι H ι' H') {a : Addr} {xs : List V} (h : SqKF g.K H a xs) : SqKF g.K H' a xs := s.w.sqk h
theorem RelD.mono {g : Gm} {ι ι' : List Addr} {H H' : Hp} (s : Stp g ι H ι' H') {d : D} {v : V} (r : RelD g ι H d v) : RelD g ι' H' d v := r.monoW s.w
theorem RelDs.mono {g : Gm} {ι ι' : List Addr} {H H' : Hp} (s : Stp g ι H ι' H') {ds : List D} {vs : List V} (r : RelDs g ι H ds vs) : RelDs g ι' H' ds vs := r.monoW s.w
section
variable {g : Gm} {ι : List Addr} {H : Hp}
theorem RelDs.length : ∀ {ds : List D} {vs : List V}, RelDs g ι H ds vs → ds.length = vs.length
  | _, _, .nil => rfl
  | _, _, .cons _ t => by simp [RelDs.length t]
theorem RelDs.get : ∀ {ds : List D} {vs : List V} {i : Nat} {d : D}, RelDs g ι H ds vs → ds[i]? = some d → ∃ v, vs[i]? = some v ∧ RelD g ι H d v
  | _, _, _, _, .nil, e => by simp at e
  | _, _, 0, _, .cons r _, e => by simp at e; subst e; exact ⟨_, rfl, r⟩
  | _, _, i + 1, d, .cons _ t, e => by
    obtain ⟨v, h1, h2⟩ := RelDs.get (i := i) (d := d) t (by simpa using e)
    exact ⟨v, by simpa using h1, h2⟩
theorem RelDs.append : ∀ {ds es : List D} {vs ws : List V}, RelDs g ι H ds vs → RelDs g ι H es ws → RelDs g ι H (ds ++ es) (vs ++ ws)
  | _, _, _, _, .nil, s => s
  | _, _, _, _, .cons r t, s => .cons r (RelDs.append t s)
theorem RelDs.take : ∀ {ds : List D} {vs : List V} (n : Nat), RelDs g ι H ds vs → RelDs g ι H (ds.take n) (vs.take n)
  | _, _, 0, _ => by simp; exact .nil
  | _, _, n + 1, .nil => .nil
  | _, _, n + 1, .cons r t => .cons r (RelDs.take n t)
theorem RelDs.drop : ∀ {ds : List D} {vs : List V} (n : Nat), RelDs g ι H ds vs → RelDs g ι H (ds.drop n) (vs.drop n)
  | _, _, 0, r => by simpa using r
  | _, _, n + 1, .nil => .nil
  | _, _, n + 1, .cons r t => RelDs.drop n t
theorem RelDs.set {d : D} {v : V} (r : RelD g ι H d v) : ∀ {ds : List D} {vs : List V} (i : Nat), RelDs g ι H ds vs → RelDs g ι H (ds.set i d) (vs.set i v)
  | _, _, _, .nil => .nil
  | _, _, 0, .cons _ t => .cons r t
  | _, _, i + 1, .cons q t => .cons q (RelDs.set r i t)
theorem RelDs.rev : ∀ {ds : List D} {vs : List V}, RelDs g ι H ds vs → RelDs g ι H ds.reverse vs.reverse
  | _, _, .nil => .nil
  | _, _, .cons r t => by
    rw [List.reverse_cons, List.reverse_cons]
    exact (RelDs.rev t).append (.cons r .nil)
theorem RelDs.ints : ∀ (ns : List Int), RelDs g ι H (ns.map .int) (ns.map .int)
  | [] => .nil
  | n :: ns => .cons (.int n) (RelDs.ints ns)
theorem RelDs.one {d : D} {v : V} (h : RelD g ι H d v) : RelDs g ι H [d] [v] := .cons h .nil
end
inductive RelKv {κ : Type} (g : Gm) (ι : List Addr) (H : Hp) : List (κ × D) → List (κ × V) → Prop
  | nil : RelKv g ι H [] []
  | cons {k : κ} {d : D} {v : V} {r : List (κ × D)} {q : List (κ × V)} : RelD g ι H d v → RelKv g ι H r q → RelKv g ι H ((k, d) :: r) ((k, v) :: q)
inductive RelFs (g : Gm) (ι : List Addr) (H : Hp) : List (Nat × D) → List (Str × V) → Prop
  | nil : RelFs g ι H [] []
  | cons {k : Nat} {d : D} {v : V} {r : List (Nat × D)} {q : List (Str × V)} : k < g.nf → RelD g ι H d v → RelFs g ι H r q → RelFs g ι H ((k, d) :: r) ((g.fld k, v) :: q)
theorem RelKv.monoW {κ : Type} {g : Gm} {ι ι' : List Addr} {H H' : Hp} (s : Stw g ι H ι' H') {r : List (κ × D)} {q : List (κ × V)} (h : RelKv g ι H r q) : RelKv g ι' H' r q := by
  induction h with
  | nil => exact .nil
  | cons a _ ih => exact .cons (a.monoW s) ih
theorem RelKv.mono {κ : Type} {g : Gm} {ι ι' : List Addr} {H H' : Hp} (s : Stp g ι H ι' H') {r : List (κ × D)} {q : List (κ × V)} (h : RelKv g ι H r q) : RelKv g ι' H' r q := h.monoW s.w
theorem RelFs.monoW {g : Gm} {ι ι' : List Addr} {H H' : Hp} (s : Stw g ι H ι' H') {r : List (Nat × D)} {q : List (Str × V)} (h : RelFs g ι H r q) : RelFs g ι' H' r q := by
  induction h with
  | nil => exact .nil
  | cons hk a _ ih => exact .cons hk (a.monoW s) ih
theorem RelFs.mono {g : Gm} {ι ι' : List Addr} {H H' : Hp} (s : Stp g ι H ι' H') {r : List (Nat × D)} {q : List (Str × V)} (h : RelFs g ι H r q) : RelFs g ι' H' r q := h.monoW s.w
def RelX (g : Gm) (ι : List Addr) (H : Hp) (x : Exc) (c : Value) (d : Option Addr) : Prop :=
  c = .ref (g.cls x.c) ∧ ((x.fs = [] ∧ d = none) ∨ ∃ dd vfs, d = some dd ∧ H dd = some (.xd vfs) ∧ RelFs g ι H x.fs vfs)
theorem RelX.monoW {g : Gm} {ι ι' : List Addr} {H H' : Hp} (s : Stw g ι H ι' H') {x : Exc} {c : Value} {d : Option Addr} (h : RelX g ι H x c d) : RelX g ι' H' x c d := by
  obtain ⟨h1, h2⟩ := h
  refine ⟨h1, ?_⟩
  rcases h2 with h2 | ⟨dd, vfs, e, h3, h4⟩
  · exact .inl h2
  · exact .inr ⟨dd, vfs, e, s.xd _ _ h3, h4.monoW s⟩
theorem RelX.mono {g : Gm} {ι ι' : List Addr} {H H' : Hp} (s : Stp g ι H ι' H') {x : Exc} {c : Value} {d : Option Addr} (h : RelX g ι H x c d) : RelX g ι' H' x c d := h.monoW s.w
inductive RelO (g : Gm) (ι : List Addr) (H : Hp) : O → HO → Prop
  | lst {xs : List D} {vs : List V} : RelDs g ι H xs vs → RelO g ι H (.lst xs) (.lst vs)
  | dK {r : List (Key × D)} {q : List (Key × V)} : RelKv g ι H r q → RelO g ι H (.dK r) (.dK q)
  | dT {r : List (List Key × D)} {q : List (List Key × V)} : RelKv g ι H r q → RelO g ι H (.dT r) (.dT q)
  | dF {od : Obj} {r : List (List Key × D)} {q : List (List Key × V)} : RelKv g ι H r q → RelO g ι H (.dF r) (.frz od (.dT q))
  | ins {c : Nat} {dx : Addr} {r : List (Nat × D)} {q : List (Str × V)} : RelFs g ι H r q → RelO g ι H (.ins c r) (.ins (g.cls c) dx q)
theorem RelO.monoW {g : Gm} {ι ι' : List Addr} {H H' : Hp} (s : Stw g ι H ι' H') {o : O} {u : HO} (h : RelO g ι H o u) : RelO g ι' H' o u := by
  cases h with
  | lst a => exact .lst (a.monoW s)
  | dK a => exact .dK (a.monoW s)
  | dT a => exact .dT (a.monoW s)
  | dF a => exact .dF (a.monoW s)
  | ins a => exact .ins (a.monoW s)
theorem RelO.mono {g : Gm} {ι ι' : List Addr} {H H' : Hp} (s : Stp g ι H ι' H') {o : O} {u : HO} (h : RelO g ι H o u) : RelO g ι' H' o u := h.monoW s.w
theorem RelO.notTup {g : Gm} {ι : List Addr} {H : Hp} {o : O} {u : HO} (h : RelO g ι H o u) : (∀ xs, u ≠ HO.tup xs) ∧ (∀ ob x, u = HO.frz ob x → ∃ q, x = HO.dT q) ∧ (∀ fs, u ≠ HO.xd fs) := by
  cases h <;> exact ⟨(fun _ z => by cases z), (fun _ _ z => by first | (cases z; exact ⟨_, rfl⟩) | cases z), (fun _ z => by cases z)⟩
structure SimH (g : Gm) (ι : List Addr) (G : Hh) (H : Hp) : Prop where
  len : ι.length = G.length
  nd : ι.Nodup
  at_ : ∀ (n : Nat) (o : O) (a : Addr), G[n]? = some o → ι[n]? = some a → ∃ u, H a = some u ∧ RelO g ι H o u
section
variable {g : Gm} {ι : List Addr} {G : Hh} {H H' : Hp}
theorem SimH.get (s : SimH g ι G H) {n : Nat} {o : O} (h : G[n]? = some o) : ∃ a u, ι[n]? = some a ∧ H a = some u ∧ RelO g ι H o u := by
  have hn : n < ι.length := by rw [s.len]; exact (List.getElem?_eq_some_iff.mp h).1
  obtain ⟨u, h1, h2⟩ := s.at_ n o ι[n] h (List.getElem?_eq_getElem hn)
  exact ⟨ι[n], u, List.getElem?_eq_getElem hn, h1, h2⟩
theorem SimH.has (s : SimH g ι G H) {a : Addr} (h : a ∈ ι) : ∃ u, H a = some u ∧ (∀ xs, u ≠ HO.tup xs) ∧ (∀ ob x, u = HO.frz ob x → ∃ q, x = HO.dT q) ∧ (∀ fs, u ≠ HO.xd fs) := by
  obtain ⟨n, hn, e⟩ := List.mem_iff_getElem.mp h
  have hg : n < G.length := by rw [← s.len]; exact hn
  obtain ⟨u, h1, h2⟩ := s.at_ n G[n] a (List.getElem?_eq_getElem hg) (by rw [List.getElem?_eq_getElem hn, e])
  exact ⟨u, h1, h2.notTup⟩
theorem SimH.fresh (s : SimH g ι G H) {p : Addr} (h : H p = none) : p ∉ ι := fun hp => by
  obtain ⟨u, h1, _⟩ := s.has hp
  rw [h] at h1
  cases h1
theorem stp_upd_new {p : Addr} {o : HO} (h : H p = none) : Stp g ι H ι (upd H p o) :=
  ⟨⟨[], by simp⟩, fun a xs q => by rw [upd_ne (ne_of_none q h)]; exact q, fun a ob u q => by rw [upd_ne (ne_of_none q h)]; exact q, fun a fs q => by rw [upd_ne (ne_of_none q h)]; exact q⟩
theorem SimH.keep (s : SimH g ι G H) (t : Stp g ι H ι H') (k : ∀ a, a ∈ ι → H' a = H a) : SimH g ι G H' :=
  ⟨s.len, s.nd, fun n o a h1 h2 => by
    obtain ⟨u, e, r⟩ := s.at_ n o a h1 h2
    exact ⟨u, by rw [k a (List.mem_of_getElem? h2)]; exact e, r.mono t⟩⟩
theorem SimH.new (s : SimH g ι G H) {p : Addr} {o : HO} (h : H p = none) : SimH g ι G (upd H p o) :=
  s.keep (stp_upd_new h) fun a ha => upd_ne (fun e => s.fresh h (e ▸ ha))
theorem SimH.alloc (s : SimH g ι G H) {p : Addr} {o : O} {u : HO} (h : H p = none) (r : RelO g ι H o u) :
    SimH g (ι ++ [p]) (G ++ [o]) (upd H p u) ∧ Stp g ι H (ι ++ [p]) (upd H p u) := by
  have t0 : Stp g ι H ι (upd H p u) := stp_upd_new h
  have t : Stp g ι H (ι ++ [p]) (upd H p u) := ⟨⟨[p], rfl⟩, t0.tup, t0.frz, t0.xd⟩
  refine ⟨⟨by simp [s.len], ?_, fun n o' a h1 h2 => ?_⟩, t⟩
  · rw [List.nodup_append]
    refine ⟨s.nd, by simp, fun a ha b hb e => ?_⟩
    have : b = p := by simpa using hb
    subst this
    subst e
    exact s.fresh h ha
  · by_cases hn : n < ι.length
    · rw [List.getElem?_append_left (by rw [← s.len]; exact hn)] at h1
      rw [List.getElem?_append_left hn] at h2
      obtain ⟨u', e, r'⟩ := s.at_ n o' a h1 h2
      have na : a ≠ p := fun e' => s.fresh h (by rw [← e']; exact List.mem_of_getElem? h2)
      exact ⟨u', by rw [upd_ne na]; exact e, r'.mono t⟩
    · have hlen : n < (ι ++ [p]).length := (List.getElem?_eq_some_iff.mp h2).1
      have hn2 : n = ι.length := by simp at hlen; omega
      subst hn2
      rw [List.getElem?_append_right (Nat.le_refl _)] at h2
      rw [List.getElem?_append_right (by rw [s.len]; exact Nat.le_refl _)] at h1
      simp at h2
      simp [s.len] at h1
      subst h2 h1
      exact ⟨u, upd_same, r.mono t⟩
theorem SimH.write (s : SimH g ι G H) {n : Nat} {a : Addr} {o : O} {u u0 : HO} (ha : ι[n]? = some a) (h0 : H a = some u0) (hnt : (∀ xs, u0 ≠ HO.tup xs) ∧ (∀ ob x, u0 ≠ HO.frz ob x) ∧ (∀ fs, u0 ≠ HO.xd fs)) (r : RelO g ι H o u) :
    SimH g ι (G.set n o) (upd H a u) ∧ Stp g ι H ι (upd H a u) := by
  have t : Stp g ι H ι (upd H a u) := ⟨⟨[], by simp⟩, fun b xs q => by
        rw [upd_ne (fun e => ?_)]
        · exact q
        · subst e; rw [h0] at q; exact hnt.1 _ (Option.some.inj q), fun b ob x q => by
        rw [upd_ne (fun e => ?_)]
        · exact q
        · subst e; rw [h0] at q; exact hnt.2.1 _ _ (Option.some.inj q), fun b fs q => by
        rw [upd_ne (fun e => ?_)]
        · exact q
        · subst e; rw [h0] at q; exact hnt.2.2 _ (Option.some.inj q)⟩
  refine ⟨⟨by simp [s.len], s.nd, fun m o' b h1 h2 => ?_⟩, t⟩
  by_cases hm : n = m
  · subst hm
    rw [h2] at ha
    have e : b = a := Option.some.inj ha
    subst e
    have hlt : n < G.length := by rw [← s.len]; exact (List.getElem?_eq_some_iff.mp h2).1
    rw [List.getElem?_set_self hlt] at h1
    have e1 : o = o' := Option.some.inj h1
    subst e1
    exact ⟨u, upd_same, r.mono t⟩
  · rw [List.getElem?_set_ne hm] at h1
    obtain ⟨u', e, r'⟩ := s.at_ m o' b h1 h2
    refine ⟨u', ?_, r'.mono t⟩
    rw [upd_ne (fun e' => ?_)]
    · exact e
    · subst e'
      obtain ⟨l1, e1⟩ := List.getElem?_eq_some_iff.mp h2
      obtain ⟨l2, e2⟩ := List.getElem?_eq_some_iff.mp ha
      exact hm ((List.getElem_inj s.nd).mp (e2.trans e1.symm))
theorem stw_free {n : Nat} {a : Addr} {od : Obj} {vs : List (List Key × V)} (h0 : H a = some (.frz od (.dT vs))) : Stw g ι H ι (upd H a (.dT vs)) :=
  ⟨⟨[], by simp⟩, fun b xs q => by rw [upd_ne (fun e => by subst e; rw [h0] at q; cases q)]; exact q, fun b ob x hx q => by
    rw [upd_ne (fun e => ?_)]
    · exact q
    · subst e; rw [h0] at q; cases q; exact hx _ rfl, fun b fs q => by rw [upd_ne (fun e => by subst e; rw [h0] at q; cases q)]; exact q⟩
theorem SimH.free (s : SimH g ι G H) {n : Nat} {a : Addr} {od : Obj} {r : List (List Key × D)} {vs : List (List Key × V)} (ha : ι[n]? = some a) (h0 : H a = some (.frz od (.dT vs))) (rk : RelKv g ι H r vs) :
    SimH g ι (G.set n (.dT r)) (upd H a (.dT vs)) := by
  have t : Stw g ι H ι (upd H a (.dT vs)) := stw_free (n := n) h0
  refine ⟨by simp [s.len], s.nd, fun m o' b h1 h2 => ?_⟩
  by_cases hm : n = m
  · subst hm
    rw [h2] at ha
    have e : b = a := Option.some.inj ha
    subst e
    have hlt : n < G.length := by rw [← s.len]; exact (List.getElem?_eq_some_iff.mp h2).1
    rw [List.getElem?_set_self hlt] at h1
    have e1 : O.dT r = o' := Option.some.inj h1
    subst e1
    exact ⟨_, upd_same, .dT (rk.monoW t)⟩
  · rw [List.getElem?_set_ne hm] at h1
    obtain ⟨u', e, r'⟩ := s.at_ m o' b h1 h2
    refine ⟨u', ?_, r'.monoW t⟩
    rw [upd_ne (fun e' => ?_)]
    · exact e
    · subst e'
      obtain ⟨l1, e1⟩ := List.getElem?_eq_some_iff.mp h2
      obtain ⟨l2, e2⟩ := List.getElem?_eq_some_iff.mp ha
      exact hm ((List.getElem_inj s.nd).mp (e2.trans e1.symm))
end
structure SimS (g : Gm) (ι : List Addr) (H : Hp) (gs : Sg) (σ : L2.St) : Prop where
  len : gs.length = σ.length
  at_ : ∀ (i : Nat) (d : D), gs[i]? = some (some d) → ∃ v, σ[i]? = some (some v) ∧ RelD g ι H d v
  hx : ∀ q, g.hx = some q → gs[q.1]? = some none ∧ σ[q.1]? = some (some (.ref q.2.1)) ∧ RelX g ι H q.2.2.2.2 q.2.2.1 q.2.2.2.1
theorem SimS.monoW {g : Gm} {ι ι' : List Addr} {H H' : Hp} {gs : Sg} {σ : L2.St} (h : SimS g ι H gs σ) (s : Stw g ι H ι' H') : SimS g ι' H' gs σ :=
  ⟨h.len, fun i d e => let ⟨v, h1, h2⟩ := h.at_ i d e; ⟨v, h1, h2.monoW s⟩, fun q e => let ⟨h1, h2, h3⟩ := h.hx q e; ⟨h1, h2, h3.monoW s⟩⟩
def NoHx (g : Gm) (i : Nat) : Prop := ∀ q, g.hx = some q → q.1 ≠ i
theorem NoHx.none {g : Gm} {i : Nat} (h : g.hx = none) : NoHx g i := fun q e => by rw [h] at e; cases e
theorem NoHx.some {g : Gm} {i : Nat} {q : Nat × Addr × Value × Option Addr × Exc} (h : g.hx = some q) (hi : q.1 ≠ i) : NoHx g i := fun q' e => by rw [h] at e; cases e; exact hi
theorem SimS.mono {g : Gm} {ι ι' : List Addr} {H H' : Hp} {gs : Sg} {σ : L2.St} (h : SimS g ι H gs σ) (s : Stp g ι H ι' H') : SimS g ι' H' gs σ :=
  ⟨h.len, fun i d e => let ⟨v, h1, h2⟩ := h.at_ i d e; ⟨v, h1, h2.mono s⟩, fun q e => let ⟨h1, h2, h3⟩ := h.hx q e; ⟨h1, h2, h3.mono s⟩⟩
theorem SimS.set {g : Gm} {ι : List Addr} {H : Hp} {gs : Sg} {σ : L2.St} (h : SimS g ι H gs σ) {d : D} {v : V} (r : RelD g ι H d v) (i : Nat) (hi : NoHx g i) : SimS g ι H (gs.set i (some d)) (σ.set i (some v)) := by
  refine ⟨by simp [h.len], fun j e hj => ?_, fun q e => ?_⟩
  · by_cases hij : i = j
    · subst hij
      have hlt : i < gs.length := by
        have := (List.getElem?_eq_some_iff.mp hj).1
        simpa using this
      rw [List.getElem?_set_self hlt] at hj
      cases hj
      exact ⟨v, by rw [List.getElem?_set_self (by rw [← h.len]; exact hlt)], r⟩
    · rw [List.getElem?_set_ne hij] at hj
      obtain ⟨w, h1, h2⟩ := h.at_ j e hj
      exact ⟨w, by rw [List.getElem?_set_ne hij]; exact h1, h2⟩
  · obtain ⟨h1, h2, h3⟩ := h.hx q e
    have hne : i ≠ q.1 := fun z => hi q e z.symm
    exact ⟨by rw [List.getElem?_set_ne hne]; exact h1, by rw [List.getElem?_set_ne hne]; exact h2, h3⟩
end FI
set_option maxRecDepth 100000
set_option maxHeartbeats 1000000
namespace FI
open PySem L2
inductive Rs (α : Type) where
  | val (a : α)
  | exc (x : Exc)
abbrev Mm (α : Type) := Hh → Option (Rs α × Hh)
def ret {α : Type} (a : α) : Mm α := fun G => some (.val a, G)
def bnd {α β : Type} (m : Option (Rs α × Hh)) (k : α → Mm β) : Option (Rs β × Hh) :=
  match m with
  | some (.val a, G) => k a G
  | some (.exc x, G) => some (.exc x, G)
  | none => none
theorem bnd_val {α β : Type} (a : α) (G : Hh) (k : α → Mm β) : bnd (some (.val a, G)) k = k a G := rfl
abbrev SE := Sg → Mm D
abbrev SA := Sg → Mm (List D)
abbrev ST := Sg → Mm Bool
abbrev Fn := List D → Mm D
def Gv (g : Gm) (W : WX) (σ : L2.St) (ι : List Addr) (H : Hp) {α : Type} (m : Option (Rs α × Hh)) (K : α → List Addr → Hh → Hp → Prop) : Prop :=
  ∃ r G', m = some (r, G') ∧ ∀ ι' H', Stp g ι H ι' H' → SimH g ι' G' H' → (match r with
    | .val a => K a ι' G' H'
    | .exc x => ∀ c d, RelX g ι' H' x c d → W c d σ H')
section
variable {g : Gm} {W : WX} {σ : L2.St} {ι : List Addr} {H : Hp} {α β : Type}
theorem Gv.imp {m : Option (Rs α × Hh)} {K K' : α → List Addr → Hh → Hp → Prop} (h : Gv g W σ ι H m K) (k : ∀ a ι' G' H', Stp g ι H ι' H' → SimH g ι' G' H' → K a ι' G' H' → K' a ι' G' H') : Gv g W σ ι H m K' := by
  obtain ⟨r, G', e, q⟩ := h
  refine ⟨r, G', e, fun ι' H' s t => ?_⟩
  have z := q ι' H' s t
  cases r with
  | val a => exact k a ι' G' H' s t z
  | exc x => exact z
theorem Gv.bnd {m : Option (Rs α × Hh)} {f : α → Mm β} {K : β → List Addr → Hh → Hp → Prop} (h : Gv g W σ ι H (bnd m f) K) : Gv g W σ ι H m fun a ι1 G1 H1 => Gv g W σ ι1 H1 (f a G1) K := by
  obtain ⟨r, G', e, q⟩ := h
  cases m with
  | none => cases e
  | some p =>
    obtain ⟨r1, G1⟩ := p
    refine ⟨r1, G1, rfl, fun ι1 H1 s1 t1 => ?_⟩
    cases r1 with
    | val a => exact ⟨r, G', e, fun ι' H' s t => q ι' H' (s1.trans s) t⟩
    | exc x =>
      have e' : some ((Rs.exc x : Rs β), G1) = some (r, G') := e
      cases e'
      exact q ι1 H1 s1 t1
theorem Gv.mk {m : Option (Rs α × Hh)} {K : α → List Addr → Hh → Hp → Prop} {a : α} {G' : Hh} (e : m = some (.val a, G')) (k : ∀ ι' H', Stp g ι H ι' H' → SimH g ι' G' H' → K a ι' G' H') : Gv g W σ ι H m K := ⟨_, _, e, k⟩
theorem Gv.val {a : α} {G' : Hh} {K : α → List Addr → Hh → Hp → Prop} (h : Gv g W σ ι H (some (.val a, G')) K) {ι' : List Addr} {H' : Hp} (s : Stp g ι H ι' H') (t : SimH g ι' G' H') : K a ι' G' H' := by
  obtain ⟨r, G1, e, q⟩ := h
  cases e
  exact q ι' H' s t
theorem Gv.ret {a : α} {G : Hh} {K : α → List Addr → Hh → Hp → Prop} (h : Gv g W σ ι H (ret a G) K) (t : SimH g ι G H) : K a ι G H := Gv.val h (.refl g ι H) t
theorem Gv.no {K : α → List Addr → Hh → Hp → Prop} {C : Prop} (h : Gv g W σ ι H (none : Option (Rs α × Hh)) K) : C := by
  obtain ⟨_, _, e, _⟩ := h
  cases e
end
structure Sc where
  N : List Str
  sc : Scope
  k : Nat
  ow : Str → Bool := fun _ => true
  hot : Bool := false
  top : Bool := true
structure XIs (g : Gm) (c : Sc) (X : Cx) : Prop where
  P : X.prog = g.P
  w : X.w = g.w
  K : X.K = g.K
  mg : X.mg = g.mg
  base : X.base = g.base
  N : X.N = c.N
  sc : X.env.scope = c.sc
  nd : c.N.Nodup
  calm : c.hot = false → X.calm = true
  room : c.hot = false → Room c.k X.A
  un : X.A.units + 16 * c.k + 200 < cLine
  dp : X.A.depth + 3 * c.k + 5 < recursionLimit
  hx : ∀ q, g.hx = some q → ∃ (Y : Cx) (oe : Obj) (pn : List (Addr × Obj)), X = Y.suite q.2.1 ((q.2.1, oe) :: pn) ∧ L2N.Zn q.2.2.1 q.2.2.2.1 oe ∧ ∃ vs, oe.data = .fields vs
  po : PassesOwn (model X.prog X.w) X.A X.env X.xe
  fn : ∀ x, c.ow x = true → X.fn x = true ∨ X.env.scope.names.lookup x = some .local
  tp : c.top = true → X.stack = X.env :: X.outer ∧ X.env.frame = some X.env.locals
  hp : c.hot = true → c.top = true → g.hx = none → L2H.HotC X
def tE (g : Gm) (W : WX) (f : SE) : TE := fun σ H Q => ∃ ι gs G, SimS g ι H gs σ ∧ SimH g ι G H ∧ Gv g W σ ι H (f gs G) fun d ι' _ H' => ∀ v, RelD g ι' H' d v → Q v H'
def tA (g : Gm) (W : WX) (f : SA) : TA := fun σ H Q => ∃ ι gs G, SimS g ι H gs σ ∧ SimH g ι G H ∧ Gv g W σ ι H (f gs G) fun ds ι' _ H' => ∀ vs, RelDs g ι' H' ds vs → Q vs H'
def tT (g : Gm) (W : WX) (f : ST) : TT := fun σ H Q => ∃ ι gs G, SimS g ι H gs σ ∧ SimH g ι G H ∧ Gv g W σ ι H (f gs G) fun b _ _ H' => Q b H'
structure FE (g : Gm) (c : Sc) (e : Expr) (f : SE) : Prop where
  run : ∀ X, XIs g c X → ∀ W, L2N.Takes X W → PE X e (tE g W f)
structure FA (g : Gm) (c : Sc) (es : List Expr) (f : SA) : Prop where
  run : ∀ X, XIs g c X → ∀ W, L2N.Takes X W → PA X es (tA g W f)
structure FT (g : Gm) (c : Sc) (e : Expr) (f : ST) : Prop where
  run : ∀ X, XIs g c X → ∀ W, L2N.Takes X W → PT X e (tT g W f)
structure FW (g : Gm) (c : Sc) (e : Expr) (f : ST) : Prop where
  run : ∀ X, XIs g c X → ∀ W, L2N.Takes X W → PW X e (tT g W f)
theorem FW.ft {g : Gm} {c : Sc} {e : Expr} {f : ST} (h : FW g c e f) : FT g c e f := ⟨fun X x W t => (h.run X x W t).pt⟩
section
variable {X : Cx} {e : Expr}
theorem pe_imp {t t' : TE} (h : PE X e t) (k : ∀ σ H Q, t' σ H Q → t σ H Q) : PE X e t' := ⟨fun pins s σ H Q I q => h.run pins s σ H Q I (k σ H Q q)⟩
theorem pt_imp {t t' : TT} (h : PT X e t) (k : ∀ σ H Q, t' σ H Q → t σ H Q) : PT X e t' := ⟨fun pins s σ H Q I q => h.run pins s σ H Q I (k σ H Q q)⟩
theorem pw_imp {t t' : TT} (h : PW X e t) (k : ∀ σ H Q, t' σ H Q → t σ H Q) : PW X e t' := ⟨fun wh pins s σ H Q I q => h.run wh pins s σ H Q I (k σ H Q q)⟩
theorem pa_imp {es : List Expr} {t t' : TA} (h : PA X es t) (k : ∀ σ H Q, t' σ H Q → t σ H Q) : PA X es t' := ⟨fun pos pins s σ H Q I q => h.run pos pins s σ H Q I (k σ H Q q)⟩
theorem ps_imp {st : Stmt} {t t' : TS} (h : PS X st t) (k : ∀ D σ H, t' D σ H → t D σ H) : PS X st t' := ⟨fun pins s σ H D I q => h.run pins s σ H D I (k D σ H q)⟩
theorem pss_imp {st : List Stmt} {t t' : TS} (h : PSs X st t) (k : ∀ D σ H, t' D σ H → t D σ H) : PSs X st t' := ⟨fun pins s σ H D I q => h.run pins s σ H D I (k D σ H q)⟩
end
def eVar (i : Nat) : SE := fun gs G => match gs[i]? with
  | some (some d) => some (.val d, G)
  | _ => none
def eC (d : D) : SE := fun _ G => some (.val d, G)
section
variable {g : Gm} {c : Sc} {pos : Pos}
theorem fe_var (i : Nat) {x : Str} (hN : c.N[i]? = some x := by rfl) (hv : Vis c.sc x := by first | exact Or.inl rfl | exact Or.inr (Or.inl rfl) | exact Or.inr (Or.inr rfl))
    (hd : (x == ("__debug__" : Str)) = false := by decide) (hcd : (x == ("__classdict__" : Str)) = false := by decide) : FE g c (.Name x pos) (eVar i) := ⟨fun X x W t => by
  refine pe_imp (pe_var (i := i) (by rw [x.N]; exact hN) (by rw [x.sc]; exact hv) hd hcd) fun σ H Q ⟨ι, gs, G, ss, sh, h⟩ => ?_
  unfold eVar at h
  split at h
  · rename_i d e
    obtain ⟨v, h1, h2⟩ := ss.at_ i d e
    exact ⟨v, h1, h.val (.refl _ _ _) sh v h2⟩
  · exact h.no⟩
theorem fe_c {e : Expr} {d : D} {v : V} (h : ∀ X : Cx, PE X e (tC v)) (r : ∀ ι H, RelD g ι H d v) : FE g c e (eC d) := ⟨fun X x W t => by
  refine pe_imp (h X) fun σ H Q ⟨ι, gs, G, ss, sh, h⟩ => ?_
  exact h.val (.refl _ _ _) sh v (r ι H)⟩
theorem fe_int {i j} : FE g c (.Constant (.int i) j pos) (eC (.int i)) := fe_c (fun _ => pe_int) fun _ _ => .int i
theorem fe_bl {b j} : FE g c (.Constant (.bool b) j pos) (eC (.bl b)) := fe_c (fun _ => pe_bl) fun _ _ => .bl b
theorem fe_non {j} : FE g c (.Constant .none j pos) (eC .non) := fe_c (fun _ => pe_non) fun _ _ => .non
theorem fe_str {x j} : FE g c (.Constant (.str x) j pos) (eC (.str x)) := fe_c (fun _ => pe_str) fun _ _ => .str x
def GlS (c : Sc) (x : Str) : Prop := c.sc.names.lookup x = some .globalImplicit
theorem GlS.gl {g : Gm} {c : Sc} {X : Cx} {x : Str} (h : GlS c x) (i : XIs g c X) : Gl X x := by
  show X.env.scope.names.lookup x = _
  rw [i.sc]
  exact h
theorem fe_glob {x : Str} {a : Addr} (hg : GlS c x := by rfl) (hm : g.mg x = some (.ref a)) (hd : (x == ("__debug__" : Str)) = false := by decide) : FE g c (.Name x pos) (eC (.glb x)) := ⟨fun X i W t => by
  refine pe_imp (pe_glob (v := .ref a) (hg.gl i) (by rw [i.mg]; exact hm) rfl hd) fun σ H Q ⟨ι, gs, G, ss, sh, h⟩ => ?_
  exact h.val (.refl _ _ _) sh _ (.glb hm)⟩
theorem fe_ty {x : Str} {n : String} (hm : g.mg x = none) (hv : bootBuiltins x = some (.type n)) (hg : GlS c x := by rfl) (hn : x ≠ "__name__" := by decide) (hd : (x == ("__debug__" : Str)) = false := by decide) :
    FE g c (.Name x pos) (eC (.ty n)) := ⟨fun X i W t => by
  refine pe_imp (pe_bltn (v := .ty n) (hg.gl i) (by rw [i.mg]; exact hm) hv rfl hn hd) fun σ H Q ⟨ι, gs, G, ss, sh, h⟩ => ?_
  exact h.val (.refl _ _ _) sh _ (.ty n)⟩
end
def eOp (F : D → D → Mm D) (fa fb : SE) : SE := fun gs G => bnd (fa gs G) fun d G1 => bnd (fb gs G1) fun e => F d e
def eUn (F : D → Mm D) (fa : SE) : SE := fun gs G => bnd (fa gs G) F
def aNil : SA := fun _ G => some (.val [], G)
def aCons (fa : SE) (fr : SA) : SA := fun gs G => bnd (fa gs G) fun d G1 => bnd (fr gs G1) fun ds G2 => some (.val (d :: ds), G2)
def eArgs (F : List D → Mm D) (fa : SA) : SE := fun gs G => bnd (fa gs G) F
def Pr2 (g : Gm) (r : R2) (F : D → D → Mm D) : Prop := ∀ (W : WX) (σ : L2.St) (ι : List Addr) (G : Hh) (H : Hp) (d e : D) (x y : V) (Q : VK), SimH g ι G H → RelD g ι H d x → RelD g ι H e y →
  Gv g W σ ι H (F d e G) (fun z ι' _ H' => ∀ v, RelD g ι' H' z v → Q v H') → r x y H Q
def Pr1 (g : Gm) (r : V → Hp → VK → Prop) (F : D → Mm D) : Prop := ∀ (W : WX) (σ : L2.St) (ι : List Addr) (G : Hh) (H : Hp) (d : D) (x : V) (Q : VK), SimH g ι G H → RelD g ι H d x →
  Gv g W σ ι H (F d G) (fun z ι' _ H' => ∀ v, RelD g ι' H' z v → Q v H') → r x H Q
def PrA (g : Gm) (r : List V → Hp → VK → Prop) (F : List D → Mm D) : Prop := ∀ (W : WX) (σ : L2.St) (ι : List Addr) (G : Hh) (H : Hp) (ds : List D) (xs : List V) (Q : VK), SimH g ι G H → RelDs g ι H ds xs →
  Gv g W σ ι H (F ds G) (fun z ι' _ H' => ∀ v, RelD g ι' H' z v → Q v H') → r xs H Q
section
variable {g : Gm} {c : Sc} {a b : Expr} {fa fb : SE} {pos : Pos}
theorem two {X : Cx} {W : WX} {e : Expr} {r : R2} {F : D → D → Mm D} (h : PE X e (tOp r (tE g W fa) (tE g W fb))) (p : Pr2 g r F) : PE X e (tE g W (eOp F fa fb)) :=
  pe_imp h fun σ H Q ⟨ι, gs, G, ss, sh, h⟩ => ⟨ι, gs, G, ss, sh, h.bnd.imp fun d ι1 G1 H1 s1 t1 h1 v rv => ⟨ι1, gs, G1, ss.mono s1, t1, h1.bnd.imp fun e ι2 G2 H2 s2 t2 h2 w rw' => p W σ ι2 G2 H2 d e v w Q t2 (rv.mono s2) rw' h2⟩⟩
theorem fe_un {op : UnaryOp} {r : V → Hp → VK → Prop} {F : D → Mm D} (p : Pr1 g r F) (ho : ∀ X, XIs g c X → UnR X (unaryOp op) r) (ha : FE g c a fa) : FE g c (.UnaryOp op a pos) (eUn F fa) :=
  ⟨fun X i W t => pe_imp (pe_un (ho X i) (ha.run X i W t)) fun σ H Q ⟨ι, gs, G, ss, sh, h⟩ => ⟨ι, gs, G, ss, sh, h.bnd.imp fun d ι1 G1 H1 s1 t1 h1 v rv => p W σ ι1 G1 H1 d v Q t1 rv h1⟩⟩
theorem fa_nil : FA g c [] aNil := ⟨fun X i W t => pa_imp pa_nil fun σ H Q ⟨ι, gs, G, ss, sh, h⟩ => h.val (.refl _ _ _) sh [] .nil⟩
theorem fa_cons {es : List Expr} {fr : SA} (ha : FE g c a fa) (hr : FA g c es fr) (hs : ∀ env, starEach (a :: es) env = (false, eval a env) :: starEach es env := by intro _; rfl) : FA g c (a :: es) (aCons fa fr) :=
  ⟨fun X i W t => pa_imp (pa_cons (ha.run X i W t) (hr.run X i W t) (hs _)) fun σ H Q ⟨ι, gs, G, ss, sh, h⟩ => ⟨ι, gs, G, ss, sh, h.bnd.imp fun d ι1 G1 H1 s1 t1 h1 v rv =>
    ⟨ι1, gs, G1, ss.mono s1, t1, h1.bnd.imp fun ds ι2 G2 H2 s2 t2 h2 vs rs => h2.val (.refl _ _ _) t2 (v :: vs) (.cons (rv.mono s2) rs)⟩⟩⟩
def dTup : List D → Mm D := fun ds G => if ds.length ≤ 100000 then some (.val (.tup ds), G) else none
def dLst : List D → Mm D := fun ds G => if ds.length ≤ 100000 then some (.val (.ref G.length), G ++ [.lst ds]) else none
theorem line_of {n : Nat} (h : n ≤ 100000) : n ≤ sizeLine := Nat.le_trans h (by decide)
theorem line_lt {n : Nat} (h : n < 100000) : n < sizeLine := Nat.lt_of_lt_of_le h (by decide)
theorem simLast {ι : List Addr} {G : Hh} {H : Hp} (s : SimH g ι G H) (p : Addr) : (ι ++ [p])[G.length]? = some p := by
  rw [← s.len, List.getElem?_append_right (Nat.le_refl _)]
  simp
theorem new_tup {ι : List Addr} {H : Hp} {ds : List D} {vs : List V} {p : Addr} (hp : H p = none) (r : RelDs g ι H ds vs) : RelD g ι (upd H p (.tup vs)) (.tup ds) (.ref p) :=
    .tup upd_same (r.mono (stp_upd_new hp))
theorem new_lst {ι : List Addr} {G : Hh} {H : Hp} {ds : List D} {vs : List V} {p : Addr} (s : SimH g ι G H) (hp : H p = none) (r : RelDs g ι H ds vs) :
    Stp g ι H (ι ++ [p]) (upd H p (.lst vs)) ∧ SimH g (ι ++ [p]) (G ++ [.lst ds]) (upd H p (.lst vs)) ∧ RelD g (ι ++ [p]) (upd H p (.lst vs)) (.ref G.length) (.ref p) :=
  let ⟨s2, t⟩ := s.alloc hp (.lst r : RelO g ι H (.lst ds) (.lst vs))
  ⟨t, s2, .ref (simLast s p)⟩
theorem fe_tup {es : List Expr} {x1} {f : SA} (h : FA g c es f) : FE g c (.Tuple es x1 pos) (eArgs dTup f) :=
  ⟨fun X i W t => pe_imp (pe_tup (h.run X i W t)) fun σ H Q ⟨ι, gs, G, ss, sh, h⟩ => ⟨ι, gs, G, ss, sh, h.bnd.imp fun ds ι1 G1 H1 s1 t1 h1 vs rv => by
    unfold dTup at h1
    split at h1
    · rename_i hl
      refine ⟨by rw [← rv.length]; exact line_of hl, fun p hp => ?_⟩
      exact h1.val (stp_upd_new hp) (t1.new hp) _ (new_tup hp rv)
    · exact h1.no⟩⟩
theorem fe_lst {es : List Expr} {f : SA} (h : FA g c es f) : FE g c (.List es pos) (eArgs dLst f) :=
  ⟨fun X i W t => pe_imp (pe_lst (h.run X i W t)) fun σ H Q ⟨ι, gs, G, ss, sh, h⟩ => ⟨ι, gs, G, ss, sh, h.bnd.imp fun ds ι1 G1 H1 s1 t1 h1 vs rv => by
    unfold dLst at h1
    split at h1
    · rename_i hl
      refine ⟨by rw [← rv.length]; exact line_of hl, fun p hp => ?_⟩
      obtain ⟨st, sm, rd⟩ := new_lst t1 hp rv
      exact h1.val st sm _ rd
    · exact h1.no⟩⟩
end
def tB (fa : SE) : ST := fun gs G => bnd (fa gs G) fun d G1 => match d with
  | .bl b => some (.val b, G1)
  | _ => none
def tAnd' (fa fb : ST) : ST := fun gs G => bnd (fa gs G) fun b G1 => if b = true then fb gs G1 else some (.val false, G1)
def tOr' (fa fb : ST) : ST := fun gs G => bnd (fa gs G) fun b G1 => if b = true then some (.val true, G1) else fb gs G1
def tNot' (fa : ST) : ST := fun gs G => bnd (fa gs G) fun b G1 => some (.val (!b), G1)
def eB (fa : ST) : SE := fun gs G => bnd (fa gs G) fun b G1 => some (.val (.bl b), G1)
def eIf (fc : ST) (fa fb : SE) : SE := fun gs G => bnd (fc gs G) fun b G1 => if b = true then fa gs G1 else fb gs G1
section
variable {g : Gm} {c : Sc} {a b : Expr} {fa fb : SE} {ta tb : ST} {rest : List Expr} {pos : Pos}
theorem ft_val (ha : FE g c a fa) (he : ∀ env whole, isTrue a env whole = (do let v ← whole; standAt a.pos; holding [v] (truthy v)) := by intro _ _; rfl) : FT g c a (tB fa) :=
  ⟨fun X i W t => pt_imp (L2.pt_val (ha.run X i W t) (he _)) fun σ H Q ⟨ι, gs, G, ss, sh, h⟩ => ⟨ι, gs, G, ss, sh, h.bnd.imp fun d ι1 G1 H1 s1 t1 h1 v rv => by
    cases rv <;> first | exact h1.no | exact ⟨_, rfl, h1.val (.refl _ _ _) t1⟩⟩⟩
theorem fw_one {op : BoolOp} (ha : FT g c a ta) : FW g c (.BoolOp op [a] pos) ta := ⟨fun X i W t => by
  cases op with
  | And => exact pw_and1 (ha.run X i W t)
  | Or => exact pw_or1 (ha.run X i W t)⟩
theorem fw_and (ha : FT g c a ta) (hb : FW g c (.BoolOp .And (b :: rest) pos) tb) : FW g c (.BoolOp .And (a :: b :: rest) pos) (tAnd' ta tb) :=
  ⟨fun X i W t => pw_imp (L2.pw_and (ha.run X i W t) (hb.run X i W t)) fun σ H Q ⟨ι, gs, G, ss, sh, h⟩ => ⟨ι, gs, G, ss, sh, h.bnd.imp fun d ι1 G1 H1 s1 t1 h1 => by
    cases d with
    | true => exact ⟨ι1, gs, G1, ss.mono s1, t1, h1⟩
    | false => exact h1.val (.refl _ _ _) t1⟩⟩
theorem fw_or (ha : FT g c a ta) (hb : FW g c (.BoolOp .Or (b :: rest) pos) tb) : FW g c (.BoolOp .Or (a :: b :: rest) pos) (tOr' ta tb) :=
  ⟨fun X i W t => pw_imp (L2.pw_or (ha.run X i W t) (hb.run X i W t)) fun σ H Q ⟨ι, gs, G, ss, sh, h⟩ => ⟨ι, gs, G, ss, sh, h.bnd.imp fun d ι1 G1 H1 s1 t1 h1 => by
    cases d with
    | true => exact h1.val (.refl _ _ _) t1
    | false => exact ⟨ι1, gs, G1, ss.mono s1, t1, h1⟩⟩⟩
theorem ft_not (ha : FT g c a ta) : FT g c (.UnaryOp .Not a pos) (tNot' ta) :=
  ⟨fun X i W t => pt_imp (L2.pt_not (ha.run X i W t)) fun σ H Q ⟨ι, gs, G, ss, sh, h⟩ => ⟨ι, gs, G, ss, sh, h.bnd.imp fun d ι1 G1 H1 s1 t1 h1 => h1.val (.refl _ _ _) t1⟩⟩
end
end FI
set_option maxRecDepth 100000
set_option maxHeartbeats 1000000
namespace FI
open PySem L2
def eAnd (fa fb : SE) : SE := fun gs G => bnd (fa gs G) fun d G1 => match d with
  | .bl true => fb gs G1
  | .bl false => some (.val (.bl false), G1)
  | _ => none
def eOr (fa fb : SE) : SE := fun gs G => bnd (fa gs G) fun d G1 => match d with
  | .bl true => some (.val (.bl true), G1)
  | .bl false => fb gs G1
  | _ => none
def eNot (fa : SE) : SE := fun gs G => bnd (fa gs G) fun d G1 => match d with
  | .bl b => some (.val (.bl (!b)), G1)
  | _ => none
section
variable {g : Gm} {c : Sc} {a b : Expr} {fa fb : SE} {ta tb : ST} {rest : List Expr} {pos : Pos}
theorem fe_one {op : BoolOp} (ha : FE g c a fa) : FE g c (.BoolOp op [a] pos) fa := ⟨fun X i W t => pe_one (ha.run X i W t)⟩
theorem fe_and (ha : FE g c a fa) (hb : FE g c (.BoolOp .And (b :: rest) pos) fb) : FE g c (.BoolOp .And (a :: b :: rest) pos) (eAnd fa fb) :=
  ⟨fun X i W t => pe_imp (pe_and (ha.run X i W t) (hb.run X i W t)) fun σ H Q ⟨ι, gs, G, ss, sh, h⟩ => ⟨ι, gs, G, ss, sh, h.bnd.imp fun d ι1 G1 H1 s1 t1 h1 v rv => by
    cases rv with
    | bl b =>
      cases b with
      | true => exact ⟨true, rfl, ι1, gs, G1, ss.mono s1, t1, h1⟩
      | false => exact ⟨false, rfl, h1.val (.refl _ _ _) t1 _ (.bl false)⟩
    | _ => exact h1.no⟩⟩
theorem fe_not (ha : FE g c a fa) : FE g c (.UnaryOp .Not a pos) (eNot fa) :=
  ⟨fun X i W t => pe_imp (pe_not (ha.run X i W t)) fun σ H Q ⟨ι, gs, G, ss, sh, h⟩ => ⟨ι, gs, G, ss, sh, h.bnd.imp fun d ι1 G1 H1 s1 t1 h1 v rv => by
    cases rv with
    | bl b => exact ⟨b, rfl, h1.val (.refl _ _ _) t1 _ (.bl _)⟩
    | _ => exact h1.no⟩⟩
theorem fe_if {e : Expr} (hc : FT g c e ta) (ha : FE g c a fa) (hb : FE g c b fb) : FE g c (.IfExp e a b pos) (eIf ta fa fb) :=
  ⟨fun X i W t => pe_imp (pe_ifExp (hc.run X i W t) (ha.run X i W t) (hb.run X i W t)) fun σ H Q ⟨ι, gs, G, ss, sh, h⟩ => ⟨ι, gs, G, ss, sh, h.bnd.imp fun d ι1 G1 H1 s1 t1 h1 => by
    cases d with
    | true => exact ⟨ι1, gs, G1, ss.mono s1, t1, h1⟩
    | false => exact ⟨ι1, gs, G1, ss.mono s1, t1, h1⟩⟩⟩
end
def eChain (F F' : D → D → Mm D) (fa fb fc : SE) : SE := fun gs G => bnd (fa gs G) fun d G1 => bnd (fb gs G1) fun e G2 => bnd (F d e G2) fun k G3 => match k with
  | .bl true => bnd (fc gs G3) fun x => F' e x
  | .bl false => some (.val (.bl false), G3)
  | _ => none
inductive Fl where
  | nx | rt (d : D) | bk | ct | ex (x : Exc)
abbrev Sm := Option (Fl × Sg × Hh)
abbrev SS := Sg → Hh → Sm
def EndOk (g : Gm) (W : WX) (D0 : Ends) (fl : Fl) (ι : List Addr) (H : Hp) (σ : L2.St) : Prop := match fl with
  | .nx => D0.nx σ H
  | .rt d => ∀ v, RelD g ι H d v → D0.rt v H
  | .bk => D0.bk σ H
  | .ct => D0.ct σ H
  | .ex x => ∀ c d, RelX g ι H x c d → W c d σ H
def Gs (g : Gm) (W : WX) (ι : List Addr) (H : Hp) (m : Sm) (D0 : Ends) : Prop :=
  ∃ fl gs' G', m = some (fl, gs', G') ∧ ∀ ι' H' σ', Stp g ι H ι' H' → SimH g ι' G' H' → SimS g ι' H' gs' σ' → EndOk g W D0 fl ι' H' σ'
def tS (g : Gm) (W : WX) (f : SS) : TS := fun D0 σ H => ∃ ι gs G, SimS g ι H gs σ ∧ SimH g ι G H ∧ Gs g W ι H (f gs G) D0
structure FS (g : Gm) (c : Sc) (st : Stmt) (f : SS) : Prop where
  run : ∀ X, XIs g c X → ∀ W, L2N.Takes X W → PS X st (tS g W f)
structure FB (g : Gm) (c : Sc) (sts : List Stmt) (f : SS) : Prop where
  run : ∀ X, XIs g c X → ∀ W, L2N.Takes X W → PSs X sts (tS g W f)
def onE {α : Type} (m : Option (Rs α × Hh)) (gs : Sg) (k : α → Hh → Sm) : Sm := match m with
  | some (.val a, G) => k a G
  | some (.exc x, G) => some (.ex x, gs, G)
  | none => none
theorem onE_val {α : Type} (a : α) (G : Hh) (gs : Sg) (k : α → Hh → Sm) : onE (some (.val a, G)) gs k = k a G := rfl
theorem onE_exc {α : Type} (x : Exc) (G : Hh) (gs : Sg) (k : α → Hh → Sm) : onE (some (.exc x, G)) gs k = some (.ex x, gs, G) := rfl
section
variable {g : Gm} {W : WX} {σ : L2.St} {ι : List Addr} {H : Hp} {α : Type}
theorem Gs.no {D0 : Ends} {C : Prop} (h : Gs g W ι H none D0) : C := by
  obtain ⟨_, _, _, e, _⟩ := h
  cases e
theorem Gs.at {fl : Fl} {gs : Sg} {G : Hh} {D0 : Ends} (h : Gs g W ι H (some (fl, gs, G)) D0) {ι' : List Addr} {H' : Hp} {σ' : L2.St} (s : Stp g ι H ι' H') (t : SimH g ι' G H') (u : SimS g ι' H' gs σ') : EndOk g W D0 fl ι' H' σ' := by
  obtain ⟨fl', gs', G', e, q⟩ := h
  cases e
  exact q ι' H' σ' s t u
theorem Gs.onE {m : Option (Rs α × Hh)} {gs : Sg} {k : α → Hh → Sm} {D0 : Ends} (ss : SimS g ι H gs σ) (h : Gs g W ι H (onE m gs k) D0) : Gv g W σ ι H m fun a ι1 G1 H1 => Gs g W ι1 H1 (k a G1) D0 := by
  obtain ⟨fl, gs', G', e, q⟩ := h
  cases m with
  | none => cases e
  | some p =>
    obtain ⟨r, G1⟩ := p
    refine ⟨r, G1, rfl, fun ι1 H1 s1 t1 => ?_⟩
    cases r with
    | val a => exact ⟨fl, gs', G', e, fun ι' H' σ' s t u => q ι' H' σ' (s1.trans s) t u⟩
    | exc x =>
      have e' : some (Fl.ex x, gs, G1) = some (fl, gs', G') := e
      cases e'
      exact q ι1 H1 σ s1 t1 (ss.mono s1)
theorem Gs.imp {m : Sm} {D0 D1 : Ends} (h : Gs g W ι H m D0) (k1 : ∀ σ H, D0.nx σ H → D1.nx σ H) (k2 : ∀ v H, D0.rt v H → D1.rt v H) (k3 : ∀ σ H, D0.bk σ H → D1.bk σ H) (k4 : ∀ σ H, D0.ct σ H → D1.ct σ H) : Gs g W ι H m D1 := by
  obtain ⟨fl, gs', G', e, q⟩ := h
  refine ⟨fl, gs', G', e, fun ι' H' σ' s t u => ?_⟩
  have z := q ι' H' σ' s t u
  cases fl with
  | nx => exact k1 _ _ z
  | rt d => exact fun v r => k2 _ _ (z v r)
  | bk => exact k3 _ _ z
  | ct => exact k4 _ _ z
  | ex x => exact z
end
def bNil : SS := fun gs G => some (.nx, gs, G)
def bSeq (f h : SS) : SS := fun gs G => match f gs G with
  | some (.nx, gs1, G1) => h gs1 G1
  | o => o
theorem Gs.seq {g : Gm} {W : WX} {ι : List Addr} {H : Hp} {f h : SS} {gs : Sg} {G : Hh} {D0 : Ends} (q : Gs g W ι H (bSeq f h gs G) D0) : Gs g W ι H (f gs G) { D0 with nx := tS g W h D0 } := by
  obtain ⟨fl, gs', G', e, q⟩ := q
  unfold bSeq at e
  cases ef : f gs G with
  | none => rw [ef] at e; cases e
  | some p =>
    obtain ⟨fl1, gs1, G1⟩ := p
    rw [ef] at e
    refine ⟨fl1, gs1, G1, rfl, fun ι' H' σ' s t u => ?_⟩
    cases fl1 with
    | nx => exact ⟨ι', gs1, G1, u, t, fl, gs', G', e, fun ι2 H2 σ2 s2 t2 u2 => q ι2 H2 σ2 (s.trans s2) t2 u2⟩
    | rt d => cases e; exact q ι' H' σ' s t u
    | bk => cases e; exact q ι' H' σ' s t u
    | ct => cases e; exact q ι' H' σ' s t u
    | ex x => cases e; exact q ι' H' σ' s t u
def sPass : SS := bNil
def sBreak : SS := fun gs G => some (.bk, gs, G)
def sCont : SS := fun gs G => some (.ct, gs, G)
def sDrop (f : SE) : SS := fun gs G => onE (f gs G) gs fun _ G1 => some (.nx, gs, G1)
def sRet (f : SE) : SS := fun gs G => onE (f gs G) gs fun d G1 => some (.rt d, gs, G1)
def sRetN : SS := fun gs G => some (.rt .non, gs, G)
def sIf (fc : ST) (f h : SS) : SS := fun gs G => onE (fc gs G) gs fun b G1 => if b = true then f gs G1 else h gs G1
abbrev GT := D → Sg → Hh → Option (Sg × Hh)
def gNm (i : Nat) : GT := fun d gs G => some (gs.set i (some d), G)
def sAsg (f : SE) (t : GT) : SS := fun gs G => onE (f gs G) gs fun d G1 => match t d gs G1 with
  | some (gs', G') => some (.nx, gs', G')
  | none => none
def But (sl : List Nat) (σ σ' : L2.St) : Prop := σ'.length = σ.length ∧ ∀ j, j ∉ sl → σ'[j]? = σ[j]?
theorem But.refl {sl : List Nat} {σ : L2.St} : But sl σ σ := ⟨rfl, fun _ _ => rfl⟩
theorem But.trans {sl : List Nat} {σ σ1 σ2 : L2.St} (a : But sl σ σ1) (b : But sl σ1 σ2) : But sl σ σ2 := ⟨b.1.trans a.1, fun j h => (b.2 j h).trans (a.2 j h)⟩
theorem But.mono {sl sm : List Nat} {σ σ' : L2.St} (a : But sl σ σ') (h : ∀ j, j ∈ sl → j ∈ sm) : But sm σ σ' := ⟨a.1, fun j k => a.2 j fun z => k (h j z)⟩
structure FG (g : Gm) (c : Sc) (tg : Expr) (sl : List Nat) (f : GT) : Prop where
  run : ∀ X, XIs g c X → PG X tg fun v σ H Q => ∃ ι gs G d gs' G', SimS g ι H gs σ ∧ SimH g ι G H ∧ RelD g ι H d v ∧ f d gs G = some (gs', G') ∧ ∀ ι' H' σ', Stp g ι H ι' H' → SimH g ι' G' H' → SimS g ι' H' gs' σ' → But sl σ σ' → Q σ' H'
section
variable {g : Gm} {c : Sc} {e : Expr} {fe : SE} {f h : SS} {st : Stmt} {rest : List Stmt} {pos : Pos}
theorem pg_imp {X : Cx} {tg : Expr} {t t' : TG} (h : PG X tg t) (k : ∀ v σ H Q, t' v σ H Q → t v σ H Q) : PG X tg t' := ⟨fun pins s σ H v u Q I r q => h.run pins s σ H v u Q I r (k v σ H Q q)⟩
theorem fb_nil : FB g c [] bNil := ⟨fun X i W t => pss_imp pss_nil fun D0 σ H ⟨ι, gs, G, ss, sh, q⟩ => q.at (.refl _ _ _) sh ss⟩
theorem fb_cons (h1 : FS g c st f) (h2 : FB g c rest h) : FB g c (st :: rest) (bSeq f h) :=
  ⟨fun X i W t => pss_imp (pss_cons (h1.run X i W t) (h2.run X i W t)) fun D0 σ H ⟨ι, gs, G, ss, sh, q⟩ => ⟨ι, gs, G, ss, sh, q.seq⟩⟩
theorem fs_break : FS g c (.Break pos) sBreak := ⟨fun X i W t => ps_imp ps_break fun D0 σ H ⟨ι, gs, G, ss, sh, q⟩ => q.at (.refl _ _ _) sh ss⟩
theorem fs_expr (he : FE g c e fe) (hs : ∀ env, swapsWith e none pos.line env = pure false := by intro _; rfl) : FS g c (.Expr e pos) (sDrop fe) :=
  ⟨fun X i W t => ps_imp (ps_expr (he.run X i W t) (hs _)) fun D0 σ H ⟨ι, gs, G, ss, sh, q⟩ => ⟨ι, gs, G, ss, sh, (q.onE ss).imp fun d ι1 G1 H1 s1 t1 h1 v rv => h1.at (.refl _ _ _) t1 (ss.mono s1)⟩⟩
theorem fs_ret (he : FE g c e fe) : FS g c (.Return (some e) pos) (sRet fe) :=
  ⟨fun X i W t => ps_imp (ps_ret (he.run X i W t)) fun D0 σ H ⟨ι, gs, G, ss, sh, q⟩ => ⟨ι, gs, G, ss, sh, (q.onE ss).imp fun d ι1 G1 H1 s1 t1 h1 v rv => h1.at (.refl _ _ _) t1 (ss.mono s1) v rv⟩⟩
theorem fs_if {ft : ST} {a b : List Stmt} (hc : FT g c e ft) (ha : FB g c a f) (hb : FB g c b h) : FS g c (.If e a b pos) (sIf ft f h) :=
  ⟨fun X i W t => ps_imp (ps_if (hc.run X i W t) (ha.run X i W t) (hb.run X i W t)) fun D0 σ H ⟨ι, gs, G, ss, sh, q⟩ => ⟨ι, gs, G, ss, sh, (q.onE ss).imp fun d ι1 G1 H1 s1 t1 h1 => by
    cases d with
    | true => exact ⟨ι1, gs, G1, ss.mono s1, t1, h1⟩
    | false => exact ⟨ι1, gs, G1, ss.mono s1, t1, h1⟩⟩⟩
theorem fg_name (i : Nat) {x : Str} (hi : c.N[i]? = some x := by rfl) (hx : Loc c.sc x := by first | exact Or.inl rfl | exact Or.inr rfl) (how : c.ow x = true := by rfl) (hnx : NoHx g i := by first | exact NoHx.none rfl | exact NoHx.some rfl (by decide)) : FG g c (.Name x pos) [i] (gNm i) :=
  ⟨fun X j => by
    have hl : X.env.scope = c.sc := j.sc
    have hf := j.fn x how
    refine pg_imp (pg_name (i := i) (by rw [j.N]; exact j.nd) (by rw [j.N]; exact hi) (by rw [hl]; exact hx) hf) fun v σ H Q ⟨ι, gs, G, d, gs', G', ss, sh, rv, e, q⟩ => ?_
    have e' : some (gs.set i (some d), G) = some (gs', G') := e
    cases e'
    exact q ι H _ (.refl _ _ _) sh (ss.set rv i hnx) ⟨by simp, fun k hk => List.getElem?_set_ne (fun z => hk (by simp [z]))⟩⟩
theorem fs_asg {tg : Expr} {sl : List Nat} {t : GT} (he : FE g c e fe) (hg : FG g c tg sl t) (hs : ∀ env, swapsWithSole [tg] e pos.line env = pure false := by intro _; rfl) (hw : ∀ env, swappedStores [tg] e env = pure none := by intro _; rfl)
    (h1 : ∀ env, (assignEach [tg] env).map (·.2) = [assign tg env] := by intro _; rfl) : FS g c (.Assign [tg] e pos) (sAsg fe t) :=
  ⟨fun X i W tk => ps_imp (ps_asg (he.run X i W tk) (hg.run X i) (hs _) (hw _) (h1 _)) fun D0 σ H ⟨ι, gs, G, ss, sh, q⟩ => ⟨ι, gs, G, ss, sh, (q.onE ss).imp fun d ι1 G1 H1 s1 t1 h1 v rv => by
    cases e : t d gs G1 with
    | none => rw [e] at h1; exact h1.no
    | some p =>
      obtain ⟨gs', G'⟩ := p
      rw [e] at h1
      exact ⟨ι1, gs, G1, d, gs', G', ss.mono s1, t1, rv, e, fun ι' H' σ' s t u _ => h1.at s t u⟩⟩⟩
end
end FI
set_option maxRecDepth 100000
set_option maxHeartbeats 1000000
namespace FI
open PySem L2
abbrev SW := Sg → Mm (List D × (Hh → Prop))
def WkOk (g : Gm) (J : It) (items : List D) (gd : Hh → Prop) (ι0 : List Addr) (H0 : Hp) : Prop :=
  ∀ ι H G i, Stp g ι0 H0 ι H → SimH g ι G H → gd G → i ≤ items.length →
    (∀ d, items[i]? = some d → J.go i H ∧ ∀ x H', J.yld i H x H' → Stp g ι H ι H' ∧ SimH g ι G H' ∧ RelD g ι H' d x) ∧ (i = items.length → J.stop i H)
theorem WkOk.mono {g : Gm} {J : It} {items : List D} {gd : Hh → Prop} {ι0 ι1 : List Addr} {H0 H1 : Hp} (w : WkOk g J items gd ι0 H0) (s : Stp g ι0 H0 ι1 H1) : WkOk g J items gd ι1 H1 := fun ι H G i st sm gg hi => w ι H G i (s.trans st) sm gg hi
def tW (g : Gm) (W : WX) (f : SW) : TI := fun σ H R => ∃ ι gs G, SimS g ι H gs σ ∧ SimH g ι G H ∧ Gv g W σ ι H (f gs G) fun p ι' G' H' => ∀ J, WkOk g J p.1 p.2 ι' H' → R J H'
structure FK (g : Gm) (c : Sc) (tg iter : Expr) (f : SW) : Prop where
  run : ∀ X, XIs g c X → ∀ W, L2N.Takes X W → PI X tg iter (tW g W f)
theorem pi_imp {X : Cx} {tg iter : Expr} {t t' : TI} (h : PI X tg iter t) (k : ∀ σ H Q, t' σ H Q → t σ H Q) : PI X tg iter t' := ⟨fun pins s σ H Q I q => h.run pins s σ H Q I (k σ H Q q)⟩
open Classical in
noncomputable def forL (t : GT) (b : SS) (gd : Hh → Prop) : List D → SS
  | [], gs, G => if gd G then some (.nx, gs, G) else none
  | d :: ds, gs, G => if gd G then (match t d gs G with
    | none => none
    | some (gs1, G1) => match b gs1 G1 with
      | some (.nx, gs2, G2) => forL t b gd ds gs2 G2
      | some (.ct, gs2, G2) => forL t b gd ds gs2 G2
      | some (.bk, gs2, G2) => some (.nx, gs2, G2)
      | o => o) else none
noncomputable def sFor (fw : SW) (t : GT) (b : SS) : SS := fun gs G => onE (fw gs G) gs fun p G1 => forL t b p.2 p.1 gs G1
section
variable {g : Gm} {c : Sc} {tg iter : Expr} {fw : SW} {t : GT} {body : List Stmt} {b : SS} {pos : Pos}
theorem fs_for {sl : List Nat} (hi : FK g c tg iter fw) (hg : FG g c tg sl t) (hb : FB g c body b) (hs : ∀ env x, foldedSetIterable iter env x = pure x := by intro _ _; rfl) (hh : c.hot = false := by rfl) : FS g c (.For tg iter body [] pos) (sFor fw t b) :=
  ⟨fun X i W tk => ps_imp (ps_for i.po (i.calm hh) (hi.run X i W tk) (hg.run X i) (hb.run X i W tk) (hs _)) fun D0 σ H ⟨ι, gs, G, ss, sh, q⟩ => by
    refine ⟨ι, gs, G, ss, sh, (q.onE ss).imp fun p ι1 G1 H1 s1 t1 h1 J wk => ?_⟩
    obtain ⟨items, gd⟩ := p
    refine ⟨fun n m σ' H' => ∃ ι' gs' G', n ≤ items.length ∧ m = items.length - n ∧ Stp g ι1 H1 ι' H' ∧ SimS g ι' H' gs' σ' ∧ SimH g ι' G' H' ∧ Gs g W ι' H' (forL t b gd (items.drop n) gs' G') D0,
      ⟨_, ι1, gs, G1, Nat.zero_le _, rfl, .refl _ _ _, ss.mono s1, t1, h1⟩, ?_⟩
    rintro n m σ' H' ⟨ι', gs', G', hn, rfl, st, ss', sh', q'⟩
    by_cases hlt : n < items.length
    · have hd : items.drop n = items[n] :: items.drop (n + 1) := List.drop_eq_getElem_cons hlt
      rw [hd] at q'
      unfold forL at q'
      by_cases hgd : gd G'
      · rw [if_pos hgd] at q'
        obtain ⟨go, yl⟩ := (wk ι' H' G' n st sh' hgd hn).1 items[n] (List.getElem?_eq_getElem hlt)
        refine .inr ⟨go, fun σ2 H2 => ∃ ι' gs' G', n + 1 ≤ items.length ∧ Stp g ι1 H1 ι' H2 ∧ SimS g ι' H2 gs' σ2 ∧ SimH g ι' G' H2 ∧ Gs g W ι' H2 (forL t b gd (items.drop (n + 1)) gs' G') D0, ?_, fun x H2 y => ?_⟩
        · rintro σ2 H2 ⟨ι2, gs2, G2, h1, h2, h3, h4, h5⟩
          exact ⟨items.length - (n + 1), by omega, ι2, gs2, G2, h1, rfl, h2, h3, h4, h5⟩
        · obtain ⟨s2, t2, rd⟩ := yl x H2 y
          cases e : t items[n] gs' G' with
          | none => rw [e] at q'; exact q'.no
          | some p =>
            obtain ⟨gs1, G2⟩ := p
            rw [e] at q'
            refine ⟨ι', gs', G', items[n], gs1, G2, ss'.mono s2, t2, rd, e, fun ι3 H3 σ3 s3 t3 u3 _ => ⟨ι3, gs1, G2, u3, t3, ?_⟩⟩
            obtain ⟨fl, gs4, G4, e4, q4⟩ := q'
            dsimp only at e4
            cases eb : b gs1 G2 with
            | none => rw [eb] at e4; cases e4
            | some p =>
              obtain ⟨fl1, gs5, G5⟩ := p
              rw [eb] at e4
              refine ⟨fl1, gs5, G5, rfl, fun ι6 H6 σ6 s6 t6 u6 => ?_⟩
              have sAll : Stp g ι' H' ι6 H6 := (s2.trans s3).trans s6
              cases fl1 with
              | nx => exact ⟨ι6, gs5, G5, hlt, st.trans sAll, u6, t6, fl, gs4, G4, e4, fun ι7 H7 σ7 s7 t7 u7 => q4 ι7 H7 σ7 (sAll.trans s7) t7 u7⟩
              | ct => exact ⟨ι6, gs5, G5, hlt, st.trans sAll, u6, t6, fl, gs4, G4, e4, fun ι7 H7 σ7 s7 t7 u7 => q4 ι7 H7 σ7 (sAll.trans s7) t7 u7⟩
              | bk => cases e4; exact q4 ι6 H6 σ6 sAll t6 u6
              | rt d => cases e4; exact q4 ι6 H6 σ6 sAll t6 u6
              | ex x => cases e4; exact q4 ι6 H6 σ6 sAll t6 u6
      · rw [if_neg hgd] at q'
        exact q'.no
    · have hn2 : n = items.length := by omega
      subst hn2
      rw [List.drop_length] at q'
      unfold forL at q'
      by_cases hgd : gd G'
      · rw [if_pos hgd] at q'
        exact .inl ⟨(wk ι' H' G' _ st sh' hgd hn).2 rfl, q'.at (.refl _ _ _) sh' ss'⟩
      · rw [if_neg hgd] at q'
        exact q'.no⟩
def whileN : Nat → ST → SS → SS
  | 0, _, _, _, _ => none
  | n + 1, fc, b, gs, G => onE (fc gs G) gs fun k G1 => if k = true then (match b gs G1 with
    | some (.nx, gs2, G2) => whileN n fc b gs2 G2
    | some (.ct, gs2, G2) => whileN n fc b gs2 G2
    | some (.bk, gs2, G2) => some (.nx, gs2, G2)
    | o => o) else some (.nx, gs, G1)
theorem whileN_succ {fc : ST} {b : SS} : ∀ {n : Nat} {gs : Sg} {G : Hh} {r}, whileN n fc b gs G = some r → whileN (n + 1) fc b gs G = some r
  | 0, gs, G, r, h => by cases h
  | n + 1, gs, G, r, h => by
    unfold whileN at h ⊢
    cases ec : fc gs G with
    | none => rw [ec] at h; cases h
    | some p =>
      obtain ⟨k, G1⟩ := p
      rw [ec] at h
      cases k with
      | exc x => exact h
      | val k =>
        cases k with
        | false => exact h
        | true =>
          rw [onE_val, if_pos rfl] at h ⊢
          cases eb : b gs G1 with
          | none => rw [eb] at h; cases h
          | some p =>
            obtain ⟨fl, gs2, G2⟩ := p
            rw [eb] at h
            cases fl with
            | nx => exact whileN_succ h
            | ct => exact whileN_succ h
            | bk => exact h
            | rt d => exact h
            | ex x => exact h
theorem whileN_le {fc : ST} {b : SS} {n m : Nat} (hnm : n ≤ m) {gs : Sg} {G : Hh} {r} (h : whileN n fc b gs G = some r) : whileN m fc b gs G = some r := by
  induction hnm with
  | refl => exact h
  | step _ ih => exact whileN_succ ih
open Classical in
noncomputable def sWhile (fc : ST) (b : SS) : SS := fun gs G => if h : ∃ r n, whileN n fc b gs G = some r then some h.choose else none
theorem sWhile_eq {fc : ST} {b : SS} {n : Nat} {gs : Sg} {G : Hh} {r} (h : whileN n fc b gs G = some r) : sWhile fc b gs G = some r := by
  have hx : ∃ r n, whileN n fc b gs G = some r := ⟨r, n, h⟩
  unfold sWhile
  rw [dif_pos hx]
  obtain ⟨m, e⟩ := hx.choose_spec
  have a := whileN_le (Nat.le_max_left n m) h
  have b' := whileN_le (Nat.le_max_right n m) e
  rw [a] at b'
  rw [Option.some.inj b']
theorem sWhile_some {fc : ST} {b : SS} {gs : Sg} {G : Hh} {r} (h : sWhile fc b gs G = some r) : ∃ n, whileN n fc b gs G = some r := by
  unfold sWhile at h
  split at h
  · rename_i hx
    obtain ⟨m, e⟩ := hx.choose_spec
    exact ⟨m, by rw [e]; exact h⟩
  · cases h
theorem fs_while {e : Expr} {fc : ST} (hc : FT g c e fc) (hb : FB g c body b) : FS g c (.While e body [] pos) (sWhile fc b) :=
  ⟨fun X i W tk => ps_imp (ps_while i.po (hc.run X i W tk) (hb.run X i W tk)) fun D0 σ H ⟨ι, gs, G, ss, sh, q⟩ => by
    obtain ⟨fl, gs', G', eq, q⟩ := q
    obtain ⟨n0, e0⟩ := sWhile_some eq
    refine ⟨fun m σ' H' => ∃ ι' gs' G', SimS g ι' H' gs' σ' ∧ SimH g ι' G' H' ∧ Gs g W ι' H' (whileN m fc b gs' G') D0, ⟨n0, ι, gs, G, ss, sh, fl, gs', G', e0, q⟩, ?_⟩
    rintro m σ' H' ⟨ι', gs', G', ss', sh', q'⟩
    cases m with
    | zero => exact q'.no
    | succ m =>
      unfold whileN at q'
      refine ⟨ι', gs', G', ss', sh', (q'.onE ss').imp fun k ι1 G1 H1 s1 t1 h1 => ?_⟩
      cases k with
      | false => exact h1.at (.refl _ _ _) t1 (ss'.mono s1)
      | true =>
        rw [if_pos rfl] at h1
        rw [if_pos rfl]
        refine ⟨fun σ2 H2 => ∃ ι' gs' G', SimS g ι' H2 gs' σ2 ∧ SimH g ι' G' H2 ∧ Gs g W ι' H2 (whileN m fc b gs' G') D0, fun σ2 H2 h => ⟨m, Nat.lt_succ_self _, h⟩, ι1, gs', G1, ss'.mono s1, t1, ?_⟩
        obtain ⟨fl, gs4, G4, e4, q4⟩ := h1
        cases eb : b gs' G1 with
        | none => rw [eb] at e4; cases e4
        | some p =>
          obtain ⟨fl1, gs5, G5⟩ := p
          rw [eb] at e4
          refine ⟨fl1, gs5, G5, rfl, fun ι6 H6 σ6 s6 t6 u6 => ?_⟩
          cases fl1 with
          | nx => exact ⟨ι6, gs5, G5, u6, t6, fl, gs4, G4, e4, fun ι7 H7 σ7 s7 t7 u7 => q4 ι7 H7 σ7 (s6.trans s7) t7 u7⟩
          | ct => exact ⟨ι6, gs5, G5, u6, t6, fl, gs4, G4, e4, fun ι7 H7 σ7 s7 t7 u7 => q4 ι7 H7 σ7 (s6.trans s7) t7 u7⟩
          | bk => cases e4; exact q4 ι6 H6 σ6 s6 t6 u6
          | rt d => cases e4; exact q4 ι6 H6 σ6 s6 t6 u6
          | ex x => cases e4; exact q4 ι6 H6 σ6 s6 t6 u6⟩
end
end FI
set_option maxRecDepth 100000
set_option maxHeartbeats 1000000
namespace FI
open PySem L2
def Sc.blk (c : Sc) (scope : Scope) : Sc := { N := c.N, sc := relS scope c.sc, k := c.k, ow := fun x => scope.names.lookup x == some .cell || scope.names.lookup x == some .local, hot := c.hot, top := false }
theorem XIs.blk {g : Gm} {c : Sc} {X : Cx} (i : XIs g c X) (h0 : g.hx = none) (s : Shared) (H : Hp) (scope : Scope) (C : Addr) (cl : List (Str × Addr)) (fp : List Addr) : XIs g (c.blk scope) (X.blk s H scope (compEnvC scope cl C X.env) fp) where
  P := i.P
  w := i.w
  K := i.K
  mg := i.mg
  base := i.base
  N := i.N
  sc := by
    show relS scope X.env.scope = relS scope c.sc
    rw [i.sc]
  nd := i.nd
  calm := i.calm
  room := i.room
  un := i.un
  dp := i.dp
  tp := fun z => nomatch z
  hx := fun q e => by rw [h0] at e; cases e
  hp := fun _ z => nomatch z
  po := PassesOwn.never
  fn := fun x h => by
    show (scope.names.lookup x == some .cell) = true ∨ (relS scope X.env.scope).names.lookup x = some .local
    have h' : (scope.names.lookup x == some .cell || scope.names.lookup x == some .local) = true := h
    rw [Bool.or_eq_true] at h'
    rcases h' with h' | h'
    · exact .inl h'
    · refine .inr (lookup_relS_keep (by decide) ?_)
      simpa using h'
def wipeG (gs : Sg) : List Nat → Sg
  | [] => gs
  | v :: vs => (wipeG gs vs).set v none
theorem SimS.wipe {g : Gm} {ι : List Addr} {H : Hp} {gs : Sg} {σ : L2.St} (h : SimS g ι H gs σ) (h0 : g.hx = none) : ∀ vs : List Nat, SimS g ι H (wipeG gs vs) (wipe σ vs)
  | [] => h
  | v :: vs => by
    have ih := h.wipe h0 vs
    refine ⟨by simp [wipeG, L2.wipe, ih.len], fun i d e => ?_, fun q e => by rw [h0] at e; cases e⟩
    have e' : ((wipeG gs vs).set v none)[i]? = some (some d) := e
    by_cases hv : v = i
    · subst hv
      rw [List.getElem?_set_self' ] at e'
      cases h1 : (wipeG gs vs)[v]? with
      | none => rw [h1] at e'; cases e'
      | some y => rw [h1] at e'; cases e'
    · rw [List.getElem?_set_ne hv] at e'
      obtain ⟨w, h1, h2⟩ := ih.at_ i d e'
      exact ⟨w, by show ((L2.wipe σ vs).set v none)[i]? = _; rw [List.getElem?_set_ne hv]; exact h1, h2⟩
theorem wipe_but {σ σ' : L2.St} : ∀ (vs : List Nat), (∀ j, j ∉ vs → σ'[j]? = σ[j]?) → σ'.length = σ.length → wipe σ' vs = wipe σ vs := fun vs h hl => by
  have key : ∀ (us : List Nat) (τ : L2.St) (j : Nat), (wipe τ us)[j]? = if j ∈ us ∧ j < τ.length then some none else τ[j]? := by
    intro us τ
    induction us with
    | nil => intro j; simp [L2.wipe]
    | cons u us ih =>
      intro j
      show ((wipe τ us).set u none)[j]? = _
      by_cases hu : u = j
      · subst hu
        rw [List.getElem?_set_self']
        rw [ih u]
        by_cases hlt : u < τ.length
        · by_cases hm : u ∈ us
          · simp [hm, hlt]
          · simp [hm, hlt]
        · have e : τ[u]? = none := List.getElem?_eq_none (by omega)
          simp [hlt, e]
      · rw [List.getElem?_set_ne hu, ih j]
        have : (j ∈ u :: us) ↔ j ∈ us := by simp [Ne.symm hu]
        simp only [this]
  apply List.ext_getElem?
  intro j
  rw [key, key, hl]
  by_cases hj : j ∈ vs
  · by_cases hlt : j < σ.length
    · simp [hj, hlt]
    · have e1 : σ[j]? = none := List.getElem?_eq_none (by omega)
      have e2 : σ'[j]? = none := List.getElem?_eq_none (by omega)
      simp [hlt, e1, e2]
  · simp [hj, h j hj]
theorem wipe_wipe {σ : L2.St} (vs : List Nat) : wipe (wipe σ vs) vs = wipe σ vs := by
  refine wipe_but vs (fun j hj => ?_) (wipe_length σ vs)
  exact wipe_out hj
structure FTs (g : Gm) (c : Sc) (ifs : List Expr) (f : ST) : Prop where
  run : ∀ X, XIs g c X → ∀ W, L2N.Takes X W → PTs X ifs (tT g W f)
def tTrue : ST := fun _ G => some (.val true, G)
theorem pts_imp {X : Cx} {es : List Expr} {t t' : TT} (h : PTs X es t) (k : ∀ σ H Q, t' σ H Q → t σ H Q) : PTs X es t' := ⟨fun pins s σ H Q I q => h.run pins s σ H Q I (k σ H Q q)⟩
theorem fts_nil {g : Gm} {c : Sc} : FTs g c [] tTrue := ⟨fun X i W t => pts_imp pts_nil fun σ H Q ⟨ι, gs, G, ss, sh, h⟩ => h.val (.refl _ _ _) sh⟩
theorem fts_one {g : Gm} {c : Sc} {e : Expr} {f : ST} (h : FT g c e f) : FTs g c [e] f := ⟨fun X i W t => pts_one (h.run X i W t)⟩
open Classical in
noncomputable def lcL (t : GT) (tt : ST) (fe : SE) (gd : Hh → Prop) (gs0 : Sg) (n : Nat) : List D → Hh → Option Hh
  | [], G => if gd G then some G else none
  | d :: ds, G => if gd G then (match t d gs0 G with
    | none => none
    | some (gs1, G1) => match tt gs1 G1 with
      | some (.val true, G2) => (match fe gs1 G2 with
        | some (.val y, G3) => (match G3[n]? with
          | some (.lst acc) => if acc.length < 100000 then lcL t tt fe gd gs0 n ds (G3.set n (.lst (acc ++ [y]))) else none
          | _ => none)
        | _ => none)
      | some (.val false, G2) => lcL t tt fe gd gs0 n ds G2
      | _ => none) else none
noncomputable def eLc (fw : SW) (t : GT) (tt : ST) (fe : SE) (own : List Nat) : SE := fun gs G => bnd (fw gs G) fun p G1 =>
  match lcL t tt fe p.2 (wipeG gs own) G1.length p.1 (G1 ++ [.lst []]) with
  | some G2 => some (.val (.ref G1.length), G2)
  | none => none
section
variable {g : Gm} {c : Sc} {tg iter elt : Expr} {ifs : List Expr} {fw : SW} {t : GT} {tt : ST} {fe : SE} {scope : Scope} {own : List (Str × Nat)} {pos : Pos} {sl : List Nat}
theorem lc_read {W : WX} (h0 : g.hx = none) (hsl : ∀ j, j ∈ sl → j ∈ own.map (·.2)) {σ : L2.St} {H : Hp} {Q : VK} (h : tE g W (eLc fw t tt fe (own.map (·.2))) σ H Q) :
    tLc (tW g W fw) (fun v σ H Q => ∃ ι gs G d gs' G', SimS g ι H gs σ ∧ SimH g ι G H ∧ RelD g ι H d v ∧ t d gs G = some (gs', G') ∧ ∀ ι' H' σ', Stp g ι H ι' H' → SimH g ι' G' H' → SimS g ι' H' gs' σ' → But sl σ σ' → Q σ' H')
      (tT g (fun _ _ _ _ => False) tt) (tE g (fun _ _ _ _ => False) fe) (own.map (·.2)) σ H Q := by
  obtain ⟨ι, gs, G, ss, sh, h⟩ := h
  refine ⟨ι, gs, G, ss, sh, h.bnd.imp fun p ι1 G1 H1 s1 t1 h1 J wk Dl hD => ?_⟩
  obtain ⟨items, gd⟩ := p
  dsimp only at h1 wk
  obtain ⟨sm0, st0⟩ := t1.alloc (o := .lst []) (u := .lst []) hD (.lst .nil)
  have ix0 : (ι1 ++ [Dl])[G1.length]? = some Dl := simLast t1 Dl
  refine ⟨fun n m H' => ∃ ι' G', n ≤ items.length ∧ m = items.length - n ∧ Stp g (ι1 ++ [Dl]) (upd H1 Dl (.lst [])) ι' H' ∧ SimH g ι' G' H' ∧
    ∃ G2, lcL t tt fe gd (wipeG gs (own.map (·.2))) G1.length (items.drop n) G' = some G2 ∧ ∀ ι3 H3, Stp g ι' H' ι3 H3 → SimH g ι3 G2 H3 → ∀ v, RelD g ι3 H3 (.ref G1.length) v → Q v H3,
    ⟨_, ι1 ++ [Dl], G1 ++ [.lst []], Nat.zero_le _, rfl, .refl _ _ _, sm0, ?_⟩, ?_⟩
  · rw [List.drop_zero]
    cases e : lcL t tt fe gd (wipeG gs (own.map (·.2))) G1.length items (G1 ++ [.lst []]) with
    | none => rw [e] at h1; exact h1.no
    | some G2 =>
      rw [e] at h1
      exact ⟨G2, rfl, fun ι3 H3 s3 t3 => h1.val (st0.trans s3) t3⟩
  · rintro n m H' ⟨ι', G', hn, rfl, st, sh', G2, eq, fin⟩
    have wk' := (wk.mono st0).mono st
    by_cases hlt : n < items.length
    · have hd : items.drop n = items[n] :: items.drop (n + 1) := List.drop_eq_getElem_cons hlt
      rw [hd] at eq
      unfold lcL at eq
      by_cases hgd : gd G'
      · rw [if_pos hgd] at eq
        obtain ⟨go, yl⟩ := (wk' ι' H' G' n (.refl _ _ _) sh' hgd hn).1 items[n] (List.getElem?_eq_getElem hlt)
        refine .inr ⟨go, fun H2 => ∃ ι' G', n + 1 ≤ items.length ∧ Stp g (ι1 ++ [Dl]) (upd H1 Dl (.lst [])) ι' H2 ∧ SimH g ι' G' H2 ∧
          ∃ G2, lcL t tt fe gd (wipeG gs (own.map (·.2))) G1.length (items.drop (n + 1)) G' = some G2 ∧ ∀ ι3 H3, Stp g ι' H2 ι3 H3 → SimH g ι3 G2 H3 → ∀ v, RelD g ι3 H3 (.ref G1.length) v → Q v H3, ?_, fun x H2 y => ?_⟩
        · rintro H2 ⟨ι2, G4, h1, h2, h3, h4⟩
          exact ⟨items.length - (n + 1), by omega, ι2, G4, h1, rfl, h2, h3, h4⟩
        · obtain ⟨s2, t2, rd⟩ := yl x H2 y
          cases e : t items[n] (wipeG gs (own.map (·.2))) G' with
          | none => rw [e] at eq; cases eq
          | some p =>
            obtain ⟨gs1, Ga⟩ := p
            rw [e] at eq
            dsimp only at eq
            have sAll : Stp g ι H ι' H' := (s1.trans st0).trans st
            refine ⟨ι', wipeG gs (own.map (·.2)), G', items[n], gs1, Ga, ((ss.mono sAll).wipe h0 _).mono s2, t2, rd, e, fun ι3 H3 σ3 s3 t3 u3 but => ⟨?_, ι3, gs1, Ga, u3, t3, ?_⟩⟩
            · rw [← wipe_wipe (σ := σ)]
              exact wipe_but _ (fun j hj => but.2 j (fun z => hj (hsl j z))) but.1
            · cases et : tt gs1 Ga with
              | none => rw [et] at eq; cases eq
              | some p =>
                obtain ⟨r, Gb⟩ := p
                rw [et] at eq
                cases r with
                | exc x => cases eq
                | val b =>
                  refine ⟨_, _, rfl, fun ι4 H4 s4 t4 => ?_⟩
                  cases b with
                  | false =>
                    dsimp only
                    rw [if_neg Bool.false_ne_true]
                    exact ⟨ι4, Gb, hlt, st.trans ((s2.trans s3).trans s4), t4, G2, eq, fun ι5 H5 s5 t5 => fin ι5 H5 (((s2.trans s3).trans s4).trans s5) t5⟩
                  | true =>
                    dsimp only
                    rw [if_pos rfl]
                    dsimp only at eq
                    refine ⟨ι4, gs1, Gb, u3.mono s4, t4, ?_⟩
                    cases ee : fe gs1 Gb with
                    | none => rw [ee] at eq; cases eq
                    | some p =>
                      obtain ⟨r, Gc⟩ := p
                      rw [ee] at eq
                      cases r with
                      | exc x => cases eq
                      | val y =>
                        refine ⟨_, _, rfl, fun ι5 H5 s5 t5 v rv => ?_⟩
                        dsimp only at eq
                        have sTo : Stp g ι' H' ι5 H5 := ((s2.trans s3).trans s4).trans s5
                        have ix5 : ι5[G1.length]? = some Dl := sTo.at (st.at ix0)
                        cases eg : Gc[G1.length]? with
                        | none => rw [eg] at eq; cases eq
                        | some o =>
                          rw [eg] at eq
                          cases o with
                          | lst acc =>
                            dsimp only at eq
                            by_cases hacc : acc.length < 100000
                            · rw [if_pos hacc] at eq
                              obtain ⟨u, hu, ro⟩ := t5.at_ _ _ _ eg ix5
                              cases ro with
                              | lst rs =>
                                obtain ⟨sm6, st6⟩ := t5.write (o := .lst (acc ++ [y])) ix5 hu ⟨(fun _ z => by cases z), (fun _ _ z => by cases z), (fun _ z => by cases z)⟩ (.lst (rs.append (.one rv)))
                                exact ⟨_, hu, by rw [← rs.length]; exact line_lt hacc, ι5, _, hlt, (st.trans sTo).trans st6, sm6, G2, eq, fun ι7 H7 s7 t7 => fin ι7 H7 ((sTo.trans st6).trans s7) t7⟩
                            · rw [if_neg hacc] at eq; cases eq
                          | dK _ => cases eq
                          | dT _ => cases eq
                          | dF _ => cases eq
                          | ins _ _ => cases eq
      · rw [if_neg hgd] at eq; cases eq
    · have hn2 : n = items.length := by omega
      subst hn2
      rw [List.drop_length] at eq
      unfold lcL at eq
      by_cases hgd : gd G'
      · rw [if_pos hgd] at eq
        cases eq
        exact .inl ⟨(wk' ι' H' G' _ (.refl _ _ _) sh' hgd hn).2 rfl, fin ι' H' (.refl _ _ _) sh' _ (.ref (st.at ix0))⟩
      · rw [if_neg hgd] at eq; cases eq
theorem fe_lc (hi : FK g c tg iter fw) (hg : FG g (c.blk scope) tg sl t) (ht : FTs g (c.blk scope) ifs tt) (he : FE g (c.blk scope) elt fe) (ok : blkC c.N c.sc scope own = true := by decide +kernel)
    (hsl : ∀ j, j ∈ sl → j ∈ own.map (·.2) := by decide) (hs : ∀ env x, foldedSetIterable iter env x = pure x := by intro _ _; rfl) (hh : c.hot = false := by rfl) (h0 : g.hx = none := by rfl) : FE g c (.ListComp elt [⟨tg, iter, ifs, 0⟩] scope pos) (eLc fw t tt fe (own.map (·.2))) :=
  ⟨fun X i W tk => pe_imp (pe_lc (i.calm hh) (by rw [i.N]; exact i.nd) (hi.run X i W tk) (by rw [i.N, i.sc]; exact blkOk_by ok)
    (fun s H C cl fp => hg.run _ (i.blk h0 s H scope C cl fp)) (fun s H C cl fp => ht.run _ (i.blk h0 s H scope C cl fp) _ takesN0) (fun s H C cl fp => he.run _ (i.blk h0 s H scope C cl fp) _ takesN0) (hs _)) fun σ H Q h => lc_read h0 hsl h⟩
theorem fs_setLc {k : Nat} {y : Str} {py spos : Pos} (hi : FK g c tg iter fw) (hg : FG g (c.blk scope) tg sl t) (ht : FTs g (c.blk scope) ifs tt) (he : FE g (c.blk scope) elt fe) (hy : c.N[k]? = some y := by rfl) (hyl : c.sc.names.lookup y = some .local := by rfl)
    (hl : (py.line == pos.line) = true := by rfl) (hkd : c.sc.kind = .function := by rfl) (ha : (scope.names.any fun (n, k) => n == y && (k == .local || k == .cell)) = false := by decide +kernel) (ok : blkC c.N c.sc scope own = true := by decide +kernel)
    (hsl : ∀ j, j ∈ sl → j ∈ own.map (·.2) := by decide) (hs : ∀ env x, foldedSetIterable iter env x = pure x := by intro _ _; rfl) (hh : c.hot = false := by rfl) (h0 : g.hx = none := by rfl) :
    FS g c (.Assign [.Name y py] (.ListComp elt [⟨tg, iter, ifs, 0⟩] scope pos) spos) (sAsg (eLc fw t tt fe (own.map (·.2))) (gNm k)) :=
  ⟨fun X i W tk => ps_imp (ps_setLc (i := k) (i.calm hh) (by rw [i.N]; exact i.nd) (by rw [i.N]; exact hy) (by rw [i.sc]; exact hyl) (sw_true (by rw [i.sc]; exact hkd) (by rw [i.sc]; exact hyl) hl ha) (hi.run X i W tk) (by rw [i.N, i.sc]; exact blkOk_by ok)
    (fun s H C cl fp => hg.run _ (i.blk h0 s H scope C cl fp)) (fun s H C cl fp => ht.run _ (i.blk h0 s H scope C cl fp) _ takesN0) (fun s H C cl fp => he.run _ (i.blk h0 s H scope C cl fp) _ takesN0) (hs _)) fun D0 σ H ⟨ι, gs, G, ss, sh, q⟩ =>
      lc_read h0 hsl ⟨ι, gs, G, ss, sh, (q.onE ss).imp fun d ι1 G1 H1 s1 t1 h1 v rv => h1.at (.refl _ _ _) t1 ((ss.mono s1).set rv k (NoHx.none h0))⟩⟩
end
end FI
set_option maxRecDepth 100000
set_option maxHeartbeats 1000000
namespace FI
open PySem L2
mutual
/-- all numbers in it are below n -/
def D.bw (n : Nat) : D → Bool
  | .ref m => decide (m < n)
  | .tup xs => D.bwL n xs
  | .kt xs => D.bwL n xs
  | .kl xs => D.bwL n xs
  | .non => true
  | .bl _ => true
  | .int _ => true
  | .str _ => true
  | .glb _ => true
  | .ty _ => true
  | .xo _ _ ds => D.bwL n ds
def D.bwL (n : Nat) : List D → Bool
  | [] => true
  | x :: xs => D.bw n x && D.bwL n xs
end
def O.bw (n : Nat) : O → Bool
  | .lst xs => D.bwL n xs
  | .dK kvs => D.bwL n (kvs.map (·.2))
  | .dT kvs => D.bwL n (kvs.map (·.2))
  | .dF kvs => D.bwL n (kvs.map (·.2))
  | .ins _ fs => D.bwL n (fs.map (·.2))
def Exc.bw (n : Nat) (x : Exc) : Bool := D.bwL n (x.fs.map (·.2))
section
variable {g : Gm} {ι : List Addr} {H : Hp}
mutual
theorem RelD.bw : ∀ {d : D} {v : V}, RelD g ι H d v → d.bw ι.length = true
  | _, _, .non => rfl
  | _, _, .bl b => rfl
  | _, _, .int i => rfl
  | _, _, .str s => rfl
  | _, _, .tup _ r => RelDs.bw r
  | _, _, .kt _ r => RelDs.bw r
  | _, _, .kl _ r => RelDs.bw r
  | _, _, .ref h => decide_eq_true (List.getElem?_eq_some_iff.mp h).1
  | _, _, .glb _ => rfl
  | _, _, .ty _ => rfl
  | _, _, .xo _ _ _ _ _ _ _ r => RelDs.bw r
theorem RelDs.bw : ∀ {ds : List D} {vs : List V}, RelDs g ι H ds vs → D.bwL ι.length ds = true
  | _, _, .nil => rfl
  | _, _, .cons a b => by
    unfold D.bwL
    rw [RelD.bw a, RelDs.bw b]
    rfl
end
mutual
theorem RelD.cut {n : Nat} : ∀ {d : D} {v : V}, RelD g ι H d v → d.bw n = true → RelD g (ι.take n) H d v
  | _, _, .non, _ => .non
  | _, _, .bl b, _ => .bl b
  | _, _, .int i, _ => .int i
  | _, _, .str s, _ => .str s
  | _, _, .tup h r, e => .tup h (RelDs.cut r e)
  | _, _, .kt h r, e => .kt h (RelDs.cut r e)
  | _, _, .kl h r, e => .kl h (RelDs.cut r e)
  | _, _, .ref (n := m) h, e => .ref (by rw [List.getElem?_take_of_lt (of_decide_eq_true e)]; exact h)
  | _, _, .glb h, _ => .glb h
  | _, _, .ty n, _ => .ty n
  | _, _, .xo h1 h2 h0 h3 h4 h5 h6 r, e => .xo h1 h2 h0 h3 h4 h5 h6 (RelDs.cut r e)
theorem RelDs.cut {n : Nat} : ∀ {ds : List D} {vs : List V}, RelDs g ι H ds vs → D.bwL n ds = true → RelDs g (ι.take n) H ds vs
  | _, _, .nil, _ => .nil
  | _, _, .cons a b, e => by
    have e' : (D.bw n _ && D.bwL n _) = true := e
    rw [Bool.and_eq_true] at e'
    exact .cons (RelD.cut a e'.1) (RelDs.cut b e'.2)
end
theorem RelKv.cut {κ : Type} {n : Nat} {r : List (κ × D)} {q : List (κ × V)} (h : RelKv g ι H r q) : D.bwL n (r.map (·.2)) = true → RelKv g (ι.take n) H r q := by
  induction h with
  | nil => exact fun _ => .nil
  | cons a _ ih =>
    intro e
    have e' : (D.bw n _ && D.bwL n _) = true := e
    rw [Bool.and_eq_true] at e'
    exact .cons (a.cut e'.1) (ih e'.2)
theorem RelFs.cut {n : Nat} {r : List (Nat × D)} {q : List (Str × V)} (h : RelFs g ι H r q) : D.bwL n (r.map (·.2)) = true → RelFs g (ι.take n) H r q := by
  induction h with
  | nil => exact fun _ => .nil
  | cons hk a _ ih =>
    intro e
    have e' : (D.bw n _ && D.bwL n _) = true := e
    rw [Bool.and_eq_true] at e'
    exact .cons hk (a.cut e'.1) (ih e'.2)
theorem RelO.cut {n : Nat} {o : O} {u : HO} (h : RelO g ι H o u) (e : o.bw n = true) : RelO g (ι.take n) H o u := by
  cases h with
  | lst a => exact .lst (a.cut e)
  | dK a => exact .dK (a.cut e)
  | dT a => exact .dT (a.cut e)
  | dF a => exact .dF (a.cut e)
  | ins a => exact .ins (a.cut e)
theorem RelKv.bw {κ : Type} {r : List (κ × D)} {q : List (κ × V)} (h : RelKv g ι H r q) : D.bwL ι.length (r.map (·.2)) = true := by
  induction h with
  | nil => rfl
  | cons a _ ih => show (D.bw _ _ && D.bwL _ _) = true; rw [a.bw, ih]; rfl
theorem RelFs.bw {r : List (Nat × D)} {q : List (Str × V)} (h : RelFs g ι H r q) : D.bwL ι.length (r.map (·.2)) = true := by
  induction h with
  | nil => rfl
  | cons hk a _ ih => show (D.bw _ _ && D.bwL _ _) = true; rw [a.bw, ih]; rfl
theorem RelO.bw {o : O} {u : HO} (h : RelO g ι H o u) : o.bw ι.length = true := by
  cases h with
  | lst a => exact a.bw
  | dK a => exact a.bw
  | dT a => exact a.bw
  | dF a => exact a.bw
  | ins a => exact a.bw
end
def Old (G0 G' : Hh) : Prop := G0.length ≤ G'.length ∧ ∀ i, i < G0.length → G'[i]? = G0[i]? ∨ ∃ o, G'[i]? = some o ∧ o.bw G0.length = true
theorem Old.app {G0 J : Hh} : Old G0 (G0 ++ J) := ⟨by simp, fun i hi => .inl (List.getElem?_append_left hi)⟩
theorem Old.refl {G0 : Hh} : Old G0 G0 := ⟨Nat.le_refl _, fun _ _ => .inl rfl⟩
theorem SimH.letGo {g : Gm} {ι ι' : List Addr} {G0 G' : Hh} {H H' : Hp} (s0 : SimH g ι G0 H) (st : Stp g ι H ι' H') (s : SimH g ι' G' H') (o : Old G0 G') : SimH g (ι'.take G0.length) (G'.take G0.length) H' ∧ ι'.take G0.length = ι := by
  have hι : ι'.take G0.length = ι := by
    obtain ⟨t, e⟩ := st.pre
    rw [e, ← s0.len, List.take_left']
    rfl
  refine ⟨⟨by rw [List.length_take, List.length_take, s.len], s.nd.sublist (List.take_sublist _ _), fun n ob a h1 h2 => ?_⟩, hι⟩
  have hn : n < G0.length := by
    have := (List.getElem?_eq_some_iff.mp h1).1
    rw [List.length_take] at this
    omega
  rw [List.getElem?_take_of_lt hn] at h1 h2
  obtain ⟨u, hu, r⟩ := s.at_ n ob a h1 h2
  refine ⟨u, hu, r.cut ?_⟩
  rcases o.2 n hn with q | ⟨ob', q, b⟩
  · rw [h1] at q
    obtain ⟨a0, u0, h3, h4, r0⟩ := s0.get q.symm
    rw [← s0.len]
    exact r0.bw
  · rw [h1] at q
    cases q
    exact b
open Classical in
noncomputable def slim (G0 : Hh) (m : Option (Rs D × Hh)) : Option (Rs D × Hh) :=
  match m with
  | some (.val (.ref m), G') => if Old G0 G' then (if m < G0.length then some (.val (.ref m), G'.take G0.length) else match G'[m]? with
      | some o => if o.bw G0.length = true then some (.val (.ref G0.length), G'.take G0.length ++ [o]) else some (.val (.ref m), G')
      | none => some (.val (.ref m), G')) else some (.val (.ref m), G')
  | some (.val d, G') => if Old G0 G' ∧ d.bw G0.length = true then some (.val d, G'.take G0.length) else some (.val d, G')
  | some (.exc x, G') => if Old G0 G' ∧ x.bw G0.length = true then some (.exc x, G'.take G0.length) else some (.exc x, G')
  | none => none
def VOk (g : Gm) (W : WX) (σ : L2.St) (Q : VK) (r : Rs D) (ι : List Addr) (H : Hp) : Prop := match r with
  | .val a => ∀ v, RelD g ι H a v → Q v H
  | .exc x => ∀ c d, RelX g ι H x c d → W c d σ H
open Classical in
theorem Gv.unslim {g : Gm} {W : WX} {σ : L2.St} {ι : List Addr} {G : Hh} {H : Hp} {m : Option (Rs D × Hh)} {Q : VK} (sh : SimH g ι G H) (h : Gv g W σ ι H (slim G m) fun d ι' _ H' => ∀ v, RelD g ι' H' d v → Q v H') :
    Gv g W σ ι H m fun d ι' _ H' => ∀ v, RelD g ι' H' d v → Q v H' := by
  obtain ⟨r, G', e, q⟩ := h
  cases m with
  | none => cases e
  | some p =>
    obtain ⟨r1, G1⟩ := p
    refine ⟨r1, G1, rfl, fun ι' H' st sm => ?_⟩
    suffices hh : VOk g W σ Q r1 ι' H' by cases r1 <;> exact hh
    have q : ∀ ι' H', Stp g ι H ι' H' → SimH g ι' G' H' → VOk g W σ Q r ι' H' := fun ι' H' a b => by
      have z := q ι' H' a b
      cases r <;> exact z
    have same : some (r1, G1) = some (r, G') → VOk g W σ Q r1 ι' H' := fun z => by
      cases z
      exact q ι' H' st sm
    have cutTo : Old G G1 → SimH g ι (G1.take G.length) H' ∧ Stp g ι H ι H' := fun o => by
      obtain ⟨a, b⟩ := sh.letGo st sm o
      rw [b] at a
      exact ⟨a, ⟨⟨[], by simp⟩, st.tup, st.frz, st.xd⟩⟩
    have plain : ∀ d, r1 = .val d → (∀ m, d ≠ .ref m) → VOk g W σ Q r1 ι' H' := fun d hd hr => by
      subst hd
      have e' : (if Old G G1 ∧ d.bw G.length = true then some ((.val d : Rs D), G1.take G.length) else some (.val d, G1)) = some (r, G') := by
        cases d with
        | ref m => exact absurd rfl (hr m)
        | _ => exact e
      by_cases hc : Old G G1 ∧ d.bw G.length = true
      · rw [if_pos hc] at e'
        cases e'
        obtain ⟨a, b⟩ := cutTo hc.1
        intro v rv
        have k := (sh.letGo st sm hc.1).2
        have rv' := rv.cut (n := G.length) hc.2
        rw [k] at rv'
        exact q ι H' b a v rv'
      · rw [if_neg hc] at e'
        exact same e'
    cases r1 with
    | exc x =>
      have e' : (if Old G G1 ∧ x.bw G.length = true then some ((.exc x : Rs D), G1.take G.length) else some (.exc x, G1)) = some (r, G') := e
      by_cases hc : Old G G1 ∧ x.bw G.length = true
      · rw [if_pos hc] at e'
        cases e'
        obtain ⟨a, b⟩ := cutTo hc.1
        have k := (sh.letGo st sm hc.1).2
        intro c d rx
        refine q ι H' b a c d ⟨rx.1, ?_⟩
        rcases rx.2 with z | ⟨dd, vfs, z1, z2, z3⟩
        · exact .inl z
        · have z4 := z3.cut (n := G.length) hc.2
          rw [k] at z4
          exact .inr ⟨dd, vfs, z1, z2, z4⟩
      · rw [if_neg hc] at e'
        exact same e'
    | val d =>
      cases d with
      | ref m =>
        have e' : (if Old G G1 then (if m < G.length then some ((.val (.ref m) : Rs D), G1.take G.length) else match G1[m]? with
          | some o => if o.bw G.length = true then some ((.val (.ref G.length) : Rs D), G1.take G.length ++ [o]) else some (.val (.ref m), G1)
          | none => some (.val (.ref m), G1)) else some (.val (.ref m), G1)) = some (r, G') := e
        by_cases ho : Old G G1
        · rw [if_pos ho] at e'
          obtain ⟨a, b⟩ := cutTo ho
          have k := (sh.letGo st sm ho).2
          by_cases hm : m < G.length
          · rw [if_pos hm] at e'
            cases e'
            intro v rv
            have rv' := rv.cut (n := G.length) (decide_eq_true hm)
            rw [k] at rv'
            exact q ι H' b a v rv'
          · rw [if_neg hm] at e'
            cases eo : G1[m]? with
            | none => rw [eo] at e'; exact same e'
            | some o =>
              rw [eo] at e'
              dsimp only at e'
              by_cases hb : o.bw G.length = true
              · rw [if_pos hb] at e'
                cases e'
                intro v rv
                cases rv with
                | @ref _ x hx =>
                  obtain ⟨u, hu, ro⟩ := sm.at_ m o x eo hx
                  have hxn : x ∉ ι := fun hi => by
                    obtain ⟨j, hj, ej⟩ := List.mem_iff_getElem.mp hi
                    have h1 : ι'[j]? = some x := st.at (by rw [List.getElem?_eq_getElem hj, ej])
                    obtain ⟨l1, e1⟩ := List.getElem?_eq_some_iff.mp h1
                    obtain ⟨l2, e2⟩ := List.getElem?_eq_some_iff.mp hx
                    have : j = m := (List.getElem_inj sm.nd).mp (e1.trans e2.symm)
                    rw [sh.len] at hj
                    omega
                  have ro' := ro.cut hb
                  rw [k] at ro'
                  have st2 : Stp g ι H' (ι ++ [x]) H' := ⟨⟨[x], rfl⟩, fun _ _ z => z, fun _ _ _ z => z, fun _ _ z => z⟩
                  have hlen : (G1.take G.length).length = G.length := by rw [List.length_take]; have := ho.1; omega
                  have sm2 : SimH g (ι ++ [x]) (G1.take G.length ++ [o]) H' := by
                    refine ⟨by simp [a.len], ?_, fun n o' y h1 h2 => ?_⟩
                    · rw [List.nodup_append]
                      refine ⟨a.nd, by simp, fun y hy z hz e => ?_⟩
                      have : z = x := by simpa using hz
                      subst this
                      subst e
                      exact hxn hy
                    · by_cases hn : n < ι.length
                      · rw [List.getElem?_append_left hn] at h2
                        rw [List.getElem?_append_left (by rw [← a.len]; exact hn)] at h1
                        obtain ⟨u', hu', r'⟩ := a.at_ n o' y h1 h2
                        exact ⟨u', hu', r'.mono st2⟩
                      · have hl := (List.getElem?_eq_some_iff.mp h2).1
                        have hn2 : n = ι.length := by simp at hl; omega
                        subst hn2
                        rw [List.getElem?_append_right (Nat.le_refl _)] at h2
                        rw [List.getElem?_append_right (by rw [a.len]; exact Nat.le_refl _)] at h1
                        simp at h2
                        rw [a.len] at h1
                        simp at h1
                        subst h2 h1
                        exact ⟨u, hu, ro'.mono st2⟩
                  refine q (ι ++ [x]) H' (b.trans st2) sm2 _ (.ref ?_)
                  rw [← sh.len, List.getElem?_append_right (Nat.le_refl _)]
                  simp
              · rw [if_neg hb] at e'
                exact same e'
        · rw [if_neg ho] at e'
          exact same e'
      | non => exact plain _ rfl (fun _ z => by cases z)
      | bl b => exact plain _ rfl (fun _ z => by cases z)
      | int i => exact plain _ rfl (fun _ z => by cases z)
      | str x => exact plain _ rfl (fun _ z => by cases z)
      | tup xs => exact plain _ rfl (fun _ z => by cases z)
      | kt xs => exact plain _ rfl (fun _ z => by cases z)
      | kl xs => exact plain _ rfl (fun _ z => by cases z)
      | glb x => exact plain _ rfl (fun _ z => by cases z)
      | ty n => exact plain _ rfl (fun _ z => by cases z)
      | xo c ks ds => exact plain _ rfl (fun _ z => by cases z)
end FI
set_option maxRecDepth 100000
set_option maxHeartbeats 1000000
namespace L2
open PySem PySem.Spec PyProof.Rows
theorem Fun.okN {P : Program} {w : World} {K : PySem.W.Frag} {mg : Str → Option Value} {base : Heap} {x qual : Str} {st : Stmt} {f : Addr} {fd : FuncData} {N ps : List Str} {k : Nat} {sp : Sp} (F : Fun K x qual st f fd) (S : FnScope N ps (defScope st)) (len : ∀ vs H Q E, sp vs H Q E → vs.length = ps.length)
    (hbody : ∀ (cdv : Value) (A : Around) (outer : List Env) (s : Shared) (H : Hp) (vs : List V) (Q : VK) (E : XK), Room k (A.deeper (envOfC qual (defScope st) s.heap.objs.size f cdv)) → sp vs H Q E →
      ∃ t, PSs (cxOf (L2N.CX P w) P w K mg base N qual (defScope st) f cdv A outer s H E) (defBody st) t ∧ t { nx := fun _ H' => Q .non H', rt := Q } (start N vs) H) : FnOk P w K mg base (L2N.CX P w) (k + 1) f fd ps sp := by
  obtain ⟨oc, od, kV, doc, pm, an, cdv, ct, osl, rfl, lk, hcd⟩ := F.ex
  exact fn_of lk hcd S len fun A outer s H vs Q E hr hsp => hbody cdv A outer s H vs Q E hr hsp
end L2
namespace FI
open PySem L2 PySem.Spec PyProof.Rows
def spD (g : Gm) (n : Nat) (F : Fn) : Sp := fun vs H Q E => vs.length = n ∧ ∃ ι ds G, RelDs g ι H ds vs ∧ SimH g ι G H ∧ Gv g (fun c d _ H' => E c d H') [] ι H (F ds G) fun d ι' _ H' => ∀ v, RelD g ι' H' d v → Q v H'
def FnD (g : Gm) (k : Nat) (f : Addr) (fd : FuncData) (ps : List Str) (F : Fn) : Prop := FnOk g.P g.w g.K g.mg g.base (L2N.CX g.P g.w) k f fd ps (spD g ps.length F)
def start0 (n : Nat) (ds : List D) : Sg := ds.map some ++ List.replicate (n - ds.length) none
def runB (b : SS) (n : Nat) : Fn := fun ds G => match b (start0 n ds) G with
  | some (.nx, _, G') => some (.val .non, G')
  | some (.rt d, _, G') => some (.val d, G')
  | some (.ex x, _, G') => some (.exc x, G')
  | _ => none
noncomputable def mkFn (np n : Nat) (b : SS) : Fn := fun ds G => if ds.length = np then slim G (runB b n ds G) else none
theorem mkFn_eq {np n : Nat} {b : SS} {ds : List D} {G : Hh} (h : ds.length = np) : mkFn np n b ds G = slim G (runB b n ds G) := if_pos h
theorem simStart {g : Gm} (h0 : g.hx = none) {ι : List Addr} {H : Hp} {ds : List D} {vs : List V} (r : RelDs g ι H ds vs) (N : List Str) : SimS g ι H (start0 N.length ds) (L2.start N vs) := by
  refine ⟨by simp [start0, L2.start, r.length], fun i d e => ?_, fun q e => by rw [h0] at e; cases e⟩
  unfold start0 at e
  by_cases hi : i < ds.length
  · rw [List.getElem?_append_left (by simpa using hi), List.getElem?_map] at e
    cases ed : ds[i]? with
    | none => rw [ed] at e; cases e
    | some y =>
      rw [ed] at e
      cases e
      obtain ⟨v, h1, h2⟩ := r.get ed
      refine ⟨v, ?_, h2⟩
      unfold L2.start
      rw [List.getElem?_append_left (by rw [List.length_map, ← r.length]; exact hi), List.getElem?_map, h1]
      rfl
  · rw [List.getElem?_append_right (by simpa using hi), List.getElem?_replicate] at e
    split at e <;> cases e
theorem xis_def {g : Gm} {N : List Str} {qual : Str} {scope : Scope} {f : Addr} {cdv : Value} {A : Around} {outer : List Env} {s : Shared} {H : Hp} {E : XK} {k : Nat} (h0 : g.hx = none) (nd : N.Nodup) (hr : Room k (A.deeper (envOfC qual scope s.heap.objs.size f cdv))) :
    XIs g { N := N, sc := scope, k := k } (cxOf (L2N.CX g.P g.w) g.P g.w g.K g.mg g.base N qual scope f cdv A outer s H E) where
  P := rfl
  w := rfl
  K := rfl
  mg := rfl
  base := rfl
  N := rfl
  sc := rfl
  nd := nd
  calm := fun _ => rfl
  room := fun _ => hr
  un := hr.un
  dp := hr.dp
  tp := fun _ => ⟨rfl, rfl⟩
  hx := fun q e => by rw [h0] at e; cases e
  hp := fun z => nomatch z
  po := passes_of rfl
  fn := fun x _ => .inl rfl
theorem fn_def {g : Gm} {x qual : Str} {st : Stmt} {f : Addr} {fd : FuncData} {N ps : List Str} {k : Nat} {b : SS} (F : Fun g.K x qual st f fd) (S : FnScope N ps (defScope st)) (hb : FB g { N := N, sc := defScope st, k := k } (defBody st) b) (h0 : g.hx = none := by rfl) : FnD g (k + 1) f fd ps (mkFn ps.length N.length b) := by
  refine F.okN S (fun vs H Q E h => h.1) (fun cdv A outer s H vs Q E hr h => ?_)
  obtain ⟨hl, ι, ds, G, rs, sh, h⟩ := h
  rw [mkFn_eq (by rw [rs.length]; exact hl)] at h
  refine ⟨_, hb.run _ (xis_def h0 S.nd hr) (fun c d _ H' => E c d H') (L2N.takes_of rfl rfl rfl rfl), ι, start0 N.length ds, G, simStart h0 rs N, sh, ?_⟩
  have h2 := Gv.unslim sh h
  obtain ⟨r, G', e, q⟩ := h2
  unfold runB at e
  cases eb : b (start0 N.length ds) G with
  | none => rw [eb] at e; cases e
  | some p =>
    obtain ⟨fl, gs', G1⟩ := p
    rw [eb] at e
    refine ⟨fl, gs', G1, rfl, fun ι' H' σ' st sm su => ?_⟩
    cases fl with
    | nx => cases e; exact q ι' H' st sm _ .non
    | rt d => cases e; exact q ι' H' st sm
    | ex x => cases e; exact q ι' H' st sm
    | bk => cases e
    | ct => cases e
end FI
set_option maxRecDepth 100000
set_option maxHeartbeats 1000000
namespace FI
open PySem L2 PySem.Spec PyProof.Rows
def RdF (g : Gm) (F : Fn) (E : XK) (vs : List V) (H : Hp) (Q : VK) : Prop := ∃ ι ds G, RelDs g ι H ds vs ∧ SimH g ι G H ∧ Gv g (fun c d _ H' => E c d H') [] ι H (F ds G) fun d ι' _ H' => ∀ v, RelD g ι' H' d v → Q v H'
def CalD (g : Gm) (k : Nat) (f : Addr) (ks : List Str) (F : Fn) : Prop :=
  ∀ (A : Around) (outer : List Env) (s : Shared) (H : Hp) (us ws : List Value) (vs : List V) (Q : VK) (E : XK), Room k A → Env0 g.P g.w g.K g.mg g.base A outer s H → ws.length = ks.length → Vals vs (us ++ ws) → RdF g F E vs H Q →
    codeAny (model g.P g.w) A (.call (.ref f) ⟨us, ks.zip ws⟩) (CR (L2N.CX g.P g.w) outer g.P g.w H s Q E) s
theorem CalD.mono {g : Gm} {j k : Nat} {f : Addr} {ks : List Str} {F : Fn} (c : CalD g j f ks F) (h : j ≤ k) : CalD g k f ks F := fun A outer s H us ws vs Q E hr => c A outer s H us ws vs Q E (hr.mono h)
theorem FnD.cal {g : Gm} {k : Nat} {f : Addr} {fd : FuncData} {ps : List Str} {F : Fn} (h : FnD g k f fd ps F) (hb : Binds g.K fd ps []) (hF : ∀ ds G, ds.length ≠ ps.length → F ds G = none) : CalD g k f [] F := by
  intro A outer s H us ws vs Q E hr e0 hl r q
  have hw : ws = [] := List.eq_nil_of_length_eq_zero hl
  subst hw
  rw [List.append_nil] at r
  obtain ⟨ι, ds, G, rs, sh, q⟩ := q
  by_cases hn : ds.length = ps.length
  · have hv : vs.length = ps.length := by rw [← rs.length]; exact hn
    have hu : us.length = ps.length := by rw [← r.length]; exact hv
    have b := hb s us (e0.mod.kin.keeps fun b o e => (e0.bs b o e).1) (by rw [List.append_nil]; exact hu)
    rw [List.append_nil] at b
    exact h.run A outer s H ⟨us, []⟩ us vs Q E hr e0 b r ⟨hv, ι, ds, G, rs, sh, q⟩
  · rw [hF ds G hn] at q
    exact q.no
theorem Gv.toE {g : Gm} {W : WX} {σ : L2.St} {ι : List Addr} {H : Hp} {α : Type} {m : Option (Rs α × Hh)} {K : α → List Addr → Hh → Hp → Prop} (h : Gv g W σ ι H m K) : Gv g (fun c d _ H' => WE W σ c d H') [] ι H m K := by
  obtain ⟨r, G', e, q⟩ := h
  refine ⟨r, G', e, fun ι' H' s t => ?_⟩
  have z := q ι' H' s t
  cases r <;> exact z
theorem XIs.env {g : Gm} {c : Sc} {X : Cx} (i : XIs g c X) {pins : List (Addr × Obj)} {σ : L2.St} {H : Hp} {s : Shared} (I : Inv X pins σ H s) : Env0 g.P g.w g.K g.mg g.base X.A X.stack s H := by
  have e := I.env0
  rw [i.P, i.w, i.K, i.mg, i.base] at e
  exact e
theorem runC {g : Gm} {c : Sc} {X : Cx} {W : WX} {k : Nat} {f : Addr} {ks : List Str} {F : Fn} {pins : List (Addr × Obj)} {σ : L2.St} {H : Hp} {s : Shared} {us ws : List Value} {vs : List V} {Q : VK} (C : CalD g k f ks F) (i : XIs g c X) (hk : k ≤ c.k ∧ c.hot = false) (tk : L2N.Takes X W)
    (I : Inv X pins σ H s) (hl : ws.length = ks.length) (r : Vals vs (us ++ ws)) (h : RdF g F (WE W σ) vs H Q) : wpAny (model X.prog X.w) X.A (call (.ref f) us (ks.zip ws)) (EP X pins σ Q) X.xe s := by
  have z := C X.A X.stack s H us ws vs Q (WE W σ) ((i.room hk.2).mono hk.1) (i.env I) hl r h
  rw [← i.P, ← i.w] at z
  refine wpAny_call (codeAny_mono z fun r s' hq => ?_)
  cases r with
  | error e => exact tk e s' (L2N.XE.of_call I (fun _ _ _ h => h) hq)
  | ok fl =>
    cases fl with
    | ret u => exact I.after hq
    | next => exact False.elim hq
    | brk => exact False.elim hq
    | cont => exact False.elim hq
structure Nam (g : Gm) (k : Nat) (x : Str) (ks : List Str) (F : Fn) : Prop where
  ex : ∃ f, g.mg x = some (.ref f) ∧ PySem.W.keepIn g.K (.ref f) = true ∧ CalD g k f ks F
def eCall (F : Fn) (fa : SA) : SE := eArgs (fun ds => F ds) fa
section
variable {g : Gm} {c : Sc} {k : Nat} {x : Str} {ks : List Str} {F : Fn} {e : Expr} {es : List Expr} {fa : SA} {p pos : Pos}
theorem fe_call (n : Nam g k x [] F) (hk : k ≤ c.k ∧ c.hot = false) (ha : FA g c (e :: es) fa) (hg : GlS c x := by rfl) (hdb : (x == ("__debug__" : Str)) = false := by decide) (he : ∀ env, starEach (e :: es) env = (false, eval e env) :: starEach es env := by intro _; rfl)
    (hpl : ∀ env, (backTo pos (starEach es env)).any (·.1) = false := by intro _; rfl) : FE g c (.Call (.Name x p) (e :: es) [] pos) (eCall F fa) := ⟨fun X i W t => by
  obtain ⟨f, hm, hkp, C⟩ := n.ex
  have hm' : X.mg x = some (.ref f) := by rw [i.mg]; exact hm
  have hkp' : PySem.W.keepIn X.K (.ref f) = true := by rw [i.K]; exact hkp
  refine pe_imp (t := fun σ H Q => tA g W fa σ H fun vs H1 => RdF g F (WE W σ) vs H1 Q) ⟨fun pins s σ H Q I h => ?_⟩ fun σ H Q ⟨ι, gs, G, ss, sh, h⟩ => ⟨ι, gs, G, ss, sh, h.bnd.imp fun ds ι1 G1 H1 s1 t1 h1 vs rv => ⟨ι1, ds, G1, rv, t1, h1.toE⟩⟩
  refine wpAny_Call_Name_kw (ld_glob I (hg.gl i) hm' ?_ hdb)
  refine PySem.W.callWith_K (h₀ := X.base) I.ok.mod.kin hkp' (thn ((ha.run X i W t).run pos pins s σ H _ I h) fun us s1 ⟨vs, H1, I1, r, q⟩ => ⟨I1.kIn, ?_⟩) (he _) (hpl _)
  exact runC (ks := []) (ws := []) C i hk t I1 rfl (by rw [List.append_nil]; exact r) q⟩
structure FKw (g : Gm) (c : Sc) (kws : List Keyword) (f : SA) : Prop where
  run : ∀ X, XIs g c X → ∀ W, L2N.Takes X W → PK X kws (tA g W f)
theorem pk_imp {X : Cx} {kws : List Keyword} {t t' : TA} (h : PK X kws t) (k : ∀ σ H Q, t' σ H Q → t σ H Q) : PK X kws t' := ⟨fun pos pins s σ H Q I q => h.run pos pins s σ H Q I (k σ H Q q)⟩
theorem fkw_nil : FKw g c [] aNil := ⟨fun X i W t => pk_imp pk_nil fun σ H Q ⟨ι, gs, G, ss, sh, h⟩ => h.val (.refl _ _ _) sh [] .nil⟩
theorem fkw_cons {nm : Option Str} {kpos : Pos} {kws : List Keyword} {f1 : SE} {fr : SA} (ha : FE g c e f1) (hr : FKw g c kws fr) : FKw g c (⟨nm, e, kpos⟩ :: kws) (aCons f1 fr) :=
  ⟨fun X i W t => pk_imp (pk_cons (ha.run X i W t) (hr.run X i W t)) fun σ H Q ⟨ι, gs, G, ss, sh, h⟩ => ⟨ι, gs, G, ss, sh, h.bnd.imp fun d ι1 G1 H1 s1 t1 h1 v rv =>
    ⟨ι1, gs, G1, ss.mono s1, t1, h1.bnd.imp fun ds ι2 G2 H2 s2 t2 h2 vs rs => h2.val (.refl _ _ _) t2 (v :: vs) (.cons (rv.mono s2) rs)⟩⟩⟩
def eCallK (F : Fn) (fa fk : SA) : SE := fun gs G => bnd (fa gs G) fun ds G1 => bnd (fk gs G1) fun es => F (ds ++ es)
theorem fe_callK {kws : List Keyword} {fk : SA} (n : Nam g k x ks F) (hk : k ≤ c.k ∧ c.hot = false) (ha : FA g c (e :: es) fa) (hkw : FKw g c kws fk) (hkl : kws.length = ks.length := by rfl) (hg : GlS c x := by rfl) (hdb : (x == ("__debug__" : Str)) = false := by decide)
    (hall : ∀ env, (backToKw pos (keywordEach kws env)).all (·.1.isSome) = true := by intro _; rfl) (hks : ∀ env, (backToKw pos (keywordEach kws env)).filterMap (·.1) = ks := by intro _; rfl)
    (he : ∀ env, starEach (e :: es) env = (false, eval e env) :: starEach es env := by intro _; rfl)
    (hpl : ∀ env, ((backTo pos (starEach (e :: es) env)).any (·.1) || (backToKw pos (keywordEach kws env)).any (·.1.isNone)) = false := by intro _; rfl) (hlen : ∀ gs G vs G', fk gs G = some (.val vs, G') → vs.length = ks.length) :
    FE g c (.Call (.Name x p) (e :: es) kws pos) (eCallK F fa fk) := ⟨fun X i W t => by
  obtain ⟨f, hm, hkp, C⟩ := n.ex
  have hm' : X.mg x = some (.ref f) := by rw [i.mg]; exact hm
  have hkp' : PySem.W.keepIn X.K (.ref f) = true := by rw [i.K]; exact hkp
  refine pe_imp (t := fun σ H Q => tA g W fa σ H fun vs H1 => tA g W fk σ H1 fun zs H2 => zs.length = ks.length ∧ RdF g F (WE W σ) (vs ++ zs) H2 Q) ⟨fun pins s σ H Q I h => ?_⟩ fun σ H Q ⟨ι, gs, G, ss, sh, h⟩ => ⟨ι, gs, G, ss, sh, h.bnd.imp fun ds ι1 G1 H1 s1 t1 h1 vs rv => ⟨ι1, gs, G1, ss.mono s1, t1, ?_⟩⟩
  · refine wpAny_Call_Name_kw (ld_glob I (hg.gl i) hm' ?_ hdb)
    refine PySem.W.callWith_KW (h₀ := X.base) I.ok.mod.kin hkp' (hall _) (thn ((ha.run X i W t).run pos pins s σ H _ I h) fun us s1 ⟨vs, H1, I1, r, q⟩ => ?_) (hpl _) (he _)
    refine thn ((hkw.run X i W t).run pos pins s1 σ H1 _ I1 q) fun ws s2 ⟨zs, H2, I2, rz, hz, q2⟩ => ⟨I2.kIn, ?_⟩
    rw [hks _]
    exact runC C i hk t I2 (by rw [← rz.length]; exact hz) (r.append rz) q2
  · have h2 := h1.bnd
    obtain ⟨r, G', e1, q⟩ := h2
    refine ⟨r, G', e1, fun ι2 H2 s2 t2 => ?_⟩
    have z := q ι2 H2 s2 t2
    cases r with
    | exc x => exact z
    | val ds2 =>
      have hl := hlen gs G1 ds2 G' e1
      exact fun zs rz => ⟨by rw [← rz.length]; exact hl, ι2, _, G', (rv.mono s2).append rz, t2, z.toE⟩⟩
end
end FI
set_option maxRecDepth 100000
set_option maxHeartbeats 1000000
namespace FI
open PySem L2 PySem.Spec PyProof.Rows
def putN (k : Nat) (d : D) : List (Nat × D) → List (Nat × D)
  | [] => [(k, d)]
  | (j, x) :: r => if j = k then (j, d) :: r else (j, x) :: putN k d r
theorem RelFs.put {g : Gm} {ι : List Addr} {H : Hp} {k : Nat} {d : D} {v : V} (hk : k < g.nf) (rv : RelD g ι H d v) : ∀ {r : List (Nat × D)} {q : List (Str × V)}, RelFs g ι H r q → RelFs g ι H (putN k d r) (putF (g.fld k) v q)
  | _, _, .nil => .cons hk rv .nil
  | _, _, .cons (k := j) (d := x) (v := w) (r := r) (q := q) hj a t => by
    show RelFs g ι H (if j = k then (j, d) :: r else (j, x) :: putN k d r) (if g.fld j = g.fld k then (g.fld j, v) :: q else (g.fld j, w) :: putF (g.fld k) v q)
    by_cases e : j = k
    · subst e
      rw [if_pos rfl, if_pos rfl]
      exact .cons hj rv t
    · rw [if_neg e, if_neg fun z => e (g.inj _ _ hj hk z)]
      exact .cons hj a (RelFs.put hk rv t)
theorem RelFs.look {g : Gm} {ι : List Addr} {H : Hp} {k : Nat} {d : D} (hk : k < g.nf) : ∀ {r : List (Nat × D)} {q : List (Str × V)}, RelFs g ι H r q → r.lookup k = some d → ∃ v, q.lookup (g.fld k) = some v ∧ RelD g ι H d v
  | _, _, .nil, h => by cases h
  | _, _, .cons (k := j) (d := x) (v := w) (r := r) (q := q) hj a t, h => by
    by_cases e : k = j
    · subst e
      simp at h
      subst h
      exact ⟨w, by simp, a⟩
    · have h1 : (k == j) = false := by simpa using e
      have h2 : (g.fld k == g.fld j) = false := by simpa using fun z => e (g.inj _ _ hk hj z)
      rw [List.lookup_cons, h1] at h
      obtain ⟨v, e1, e2⟩ := RelFs.look hk t h
      exact ⟨v, by rw [List.lookup_cons, h2]; exact e1, e2⟩
theorem RelFs.length {g : Gm} {ι : List Addr} {H : Hp} : ∀ {r : List (Nat × D)} {q : List (Str × V)}, RelFs g ι H r q → r.length = q.length
  | _, _, .nil => rfl
  | _, _, .cons _ _ t => by simp [RelFs.length t]
structure FldOk (g : Gm) (cs : List Nat) (k : Nat) (f : Str) : Prop where
  lt : k < g.nf
  nm : g.fld k = f
  cl : ∀ c, c ∈ cs → Cls g.K (g.cls c) ∧ NoAttr g.K (g.cls c) f
def dFld (cs : List Nat) (k : Nat) : D → Mm D := fun d G => match d with
  | .ref n => match G[n]? with
    | some (.ins c fs) => if c ∈ cs then (match fs.lookup k with
      | some d => some (.val d, G)
      | none => none) else none
    | _ => none
  | _ => none
def sFld' (cs : List Nat) (k : Nat) (fo fv : SE) : SS := fun gs G => onE (fv gs G) gs fun d G1 => onE (fo gs G1) gs fun o G2 => match o with
  | .ref n => match G2[n]? with
    | some (.ins c fs) => if c ∈ cs ∧ fs.length < 900 then some (.nx, gs, G2.set n (.ins c (putN k d fs))) else none
    | _ => none
  | _ => none
section
variable {g : Gm} {c : Sc} {o e : Expr} {fo fe : SE} {cs : List Nat} {k : Nat} {f : Str} {pos pos' : Pos}
theorem fe_fld (F : FldOk g cs k f) (ho : FE g c o fo) (hb : ∀ env, attributeBase o f env (eval o env) = eval o env := by intro _; rfl) : FE g c (.Attribute o f pos) (eUn (dFld cs k) fo) := ⟨fun X i W t => by
  refine pe_imp (pe_fld (ho.run X i W t) (hb _)) fun σ H Q ⟨ι, gs, G, ss, sh, h⟩ => ⟨ι, gs, G, ss, sh, h.bnd.imp fun d ι1 G1 H1 s1 t1 h1 v rv => ?_⟩
  cases rv with
  | @ref n a ha =>
    unfold dFld at h1
    dsimp only at h1
    cases eg : G1[n]? with
    | none => rw [eg] at h1; exact h1.no
    | some ob =>
      rw [eg] at h1
      cases ob with
      | ins c0 fs =>
        dsimp only at h1
        by_cases hc : c0 ∈ cs
        · rw [if_pos hc] at h1
          obtain ⟨u, hu, ro⟩ := t1.at_ n _ a eg ha
          cases ro with
          | ins rf =>
            cases el : fs.lookup k with
            | none => rw [el] at h1; exact h1.no
            | some d =>
              rw [el] at h1
              obtain ⟨v, e1, e2⟩ := rf.look F.lt el
              obtain ⟨h3, h4⟩ := F.cl c0 hc
              rw [i.K]
              exact ⟨a, _, _, _, v, rfl, hu, h3, h4, by rw [← F.nm]; exact e1, h1.val (.refl _ _ _) t1 v e2⟩
        · rw [if_neg hc] at h1
          exact h1.no
      | _ => exact h1.no
  | _ => exact h1.no⟩
theorem fs_fld (F : FldOk g cs k f) (ho : FE g c o fo) (he : FE g c e fe) (hs : ∀ env, swapsWith e (some (.Attribute o f pos')) pos.line env = pure false := by intro _; rfl) : FS g c (.Assign [.Attribute o f pos'] e pos) (sFld' cs k fo fe) := ⟨fun X i W t => by
  refine ps_imp (ps_fld (ho.run X i W t) (he.run X i W t) (hs _)) fun D0 σ H ⟨ι, gs, G, ss, sh, q⟩ => ⟨ι, gs, G, ss, sh, (q.onE ss).imp fun d ι1 G1 H1 s1 t1 h1 v rv => ⟨ι1, gs, G1, ss.mono s1, t1, (h1.onE (ss.mono s1)).imp fun ob ι2 G2 H2 s2 t2 h2 w rw' => ?_⟩⟩
  cases rw' with
  | @ref n a ha =>
    dsimp only at h2
    cases eg : G2[n]? with
    | none => rw [eg] at h2; exact h2.no
    | some ob =>
      rw [eg] at h2
      cases ob with
      | ins c0 fs =>
        dsimp only at h2
        by_cases hc : c0 ∈ cs ∧ fs.length < 900
        · rw [if_pos hc] at h2
          obtain ⟨u, hu, ro⟩ := t2.at_ n _ a eg ha
          cases ro with
          | @ins _ dx _ vfs rf =>
            obtain ⟨h3, h4⟩ := F.cl c0 hc.1
            obtain ⟨sm, st⟩ := t2.write (o := .ins c0 (putN k d fs)) ha hu ⟨(fun _ z => by cases z), (fun _ _ z => by cases z), (fun _ z => by cases z)⟩ (.ins (dx := dx) (rf.put F.lt (rv.mono s2)))
            rw [i.K]
            refine ⟨a, _, _, _, rfl, hu, h3, h4, by rw [← rf.length]; omega, ?_⟩
            rw [← F.nm]
            exact h2.at st sm (((ss.mono s1).mono s2).mono st)
        · rw [if_neg hc] at h2
          exact h2.no
      | _ => exact h2.no
  | _ => exact h2.no⟩
end
def mkCls (c : Nat) (Fi : Fn) : Fn := fun ds G => bnd (Fi (.ref G.length :: ds) (G ++ [.ins c []])) fun r G' => match r with
  | .non => some (.val (.ref G.length), G')
  | _ => none
theorem cal_cls {g : Gm} {k c : Nat} {f : Addr} {ks : List Str} {Fi : Fn} (M : Mk g.K (g.cls c) f) (C : CalD g k f ks Fi) : CalD g (k + 1) (g.cls c) ks (mkCls c Fi) := by
  intro A outer s H us ws vs Q E hr e0 hl r ⟨ι, ds, G, rs, sh, q⟩
  have X : g.K.In s.heap := e0.mod.kin.keeps fun b o e => (e0.bs b o e).1
  have hn1 : H s.heap.objs.size = none := e0.hok.fresh (Nat.le_refl _)
  have hn2 : H (s.heap.objs.size + 1) = none := e0.hok.fresh (Nat.le_succ _)
  have ne : s.heap.objs.size ≠ s.heap.objs.size + 1 := Nat.ne_of_lt (Nat.lt_succ_self _)
  have e1 : (s.heap.push PySem.W.emptyDict).get? s.heap.objs.size = some PySem.W.emptyDict := Heap.get?_push_size s.heap rfl
  have e3 : (s.heap.push PySem.W.emptyDict).Ns s.heap.objs.size (fun _ => none) := ⟨PySem.W.emptyDict, #[], _, e1, rfl, (fun e he => absurd he (by simp)), fun _ => rfl⟩
  have E1 := StX.env0_laid (o := PySem.W.emptyDict) (u := .own (s.heap.objs.size + 1)) e0 ⟨_, e1⟩
  have un1 := StX.un_laid (fs := frs outer) (s := s) (o := PySem.W.emptyDict) (u := .own (s.heap.objs.size + 1)) hn1
  have hsz : (s.heap.push PySem.W.emptyDict).objs.size = s.heap.objs.size + 1 := Heap.size_push _ _
  have e2 : ((s.heap.push PySem.W.emptyDict).push (PySem.W.instObj (g.cls c) s.heap.objs.size)).get? (s.heap.push PySem.W.emptyDict).objs.size = some (PySem.W.instObj (g.cls c) s.heap.objs.size) :=
    Heap.get?_push_size (s.heap.push PySem.W.emptyDict) (o := PySem.W.instObj (g.cls c) s.heap.objs.size) rfl
  have E2 := StX.env0_laid (s := { s with heap := s.heap.push PySem.W.emptyDict }) (o := PySem.W.instObj (g.cls c) s.heap.objs.size) (u := .ins (g.cls c) s.heap.objs.size []) E1 (by
    show ObjOk _ _ (upd _ (s.heap.push PySem.W.emptyDict).objs.size _) _ (s.heap.push PySem.W.emptyDict).objs.size _
    rw [hsz] at e2 ⊢
    refine ⟨by rw [upd_ne ne, upd_same], Nat.zero_le _, ne, e2, fun _ => none, (Heap.Ns1.of_empty e3).at fun o q => Heap.get?_push_of_some _ q, fun _ => True.intro, fun y hy => absurd rfl hy⟩)
  have hnA : (upd H s.heap.objs.size (.own (s.heap.objs.size + 1))) (s.heap.objs.size + 1) = none := by rw [upd_ne (Ne.symm ne)]; exact hn2
  have un2 := StX.un_laid (fs := frs outer) (s := { s with heap := s.heap.push PySem.W.emptyDict }) (H := upd H s.heap.objs.size (.own (s.heap.objs.size + 1))) (o := PySem.W.instObj (g.cls c) s.heap.objs.size) (u := .ins (g.cls c) s.heap.objs.size []) (by
    show (upd H s.heap.objs.size (.own (s.heap.objs.size + 1))) (s.heap.push PySem.W.emptyDict).objs.size = none
    rw [hsz]; exact hnA)
  have un := un1.trans un2
  obtain ⟨sm2, st2⟩ := (sh.new (p := s.heap.objs.size) (o := .own (s.heap.objs.size + 1)) hn1).alloc (p := s.heap.objs.size + 1) (o := .ins c []) (u := .ins (g.cls c) s.heap.objs.size []) hnA (.ins .nil)
  have st : Stp g ι H (ι ++ [s.heap.objs.size + 1]) (upd (upd H s.heap.objs.size (.own (s.heap.objs.size + 1))) (s.heap.objs.size + 1) (.ins (g.cls c) s.heap.objs.size [])) := (stp_upd_new hn1).trans st2
  have ix : (ι ++ [s.heap.objs.size + 1])[G.length]? = some (s.heap.objs.size + 1) := simLast sh _
  rw [show (s.heap.push PySem.W.emptyDict).objs.size = s.heap.objs.size + 1 from hsz] at E2 un2 un
  refine make_map (f := f) X M.makes M.init (beq_iff_eq.mp M.fn) (codeAny_mono (C _ outer _ _ (.ref (s.heap.objs.size + 1) :: us) ws (.ref (s.heap.objs.size + 1) :: vs) (fun v H2 => v = .non ∧ Q (.ref (s.heap.objs.size + 1)) H2) E (hr.make (g.cls c) us (ks.zip ws)) (E2.make (g.cls c) us (ks.zip ws)) hl (.cons rfl r) ?_) fun r s' hq => ?_)
  · refine ⟨ι ++ [s.heap.objs.size + 1], .ref G.length :: ds, G ++ [.ins c []], .cons (.ref ix) (rs.mono st), sm2, ?_⟩
    have q2 := q.bnd
    obtain ⟨r1, G1, er, k1⟩ := q2
    refine ⟨r1, G1, er, fun ι' H' s3 t3 => ?_⟩
    have z := k1 ι' H' (st.trans s3) t3
    cases r1 with
    | exc x => exact z
    | val d =>
      intro v rv
      dsimp only at z
      cases rv with
      | non => exact ⟨rfl, z.val (.refl _ _ _) t3 _ (.ref (s3.at ix))⟩
      | _ => exact z.no
  · cases r with
    | error er => exact L2.cxUpN outer s H { s with heap := (s.heap.push PySem.W.emptyDict).push (PySem.W.instObj (g.cls c) s.heap.objs.size) } _ E er s' un (fun b o e => Heap.get?_push_of_some _ (Heap.get?_push_of_some _ e)) rfl hq
    | ok fl =>
      cases fl with
      | ret u =>
        obtain ⟨v, H', os, bare, un3, hok, rv, ev, q3⟩ := hq
        subst ev
        exact ⟨rv, ⟨V.ref (s.heap.objs.size + 1), H', os, bare, un.trans un3, hok, rfl, q3⟩⟩
      | next => exact False.elim hq
      | brk => exact False.elim hq
      | cont => exact False.elim hq
end FI
set_option maxRecDepth 100000
set_option maxHeartbeats 1000000
namespace FI
open PySem L2 PySem.Spec PyProof.Rows
def dII (f : Int → Int → D) : D → D → Mm D := fun d e G => match d, e with
  | .int i, .int j => some (.val (f i j), G)
  | _, _ => none
def dIIc (p : Int → Int → Bool) (f : Int → Int → D) : D → D → Mm D := fun d e G => match d, e with
  | .int i, .int j => if p i j = true then some (.val (f i j), G) else none
  | _, _ => none
section
variable {g : Gm}
theorem pr_II {f : Int → Int → D} {fv : Int → Int → V} (h : ∀ ι H i j, RelD g ι H (f i j) (fv i j)) : Pr2 g (rI0 fv) (dII f) := by
  intro W σ ι G H d e x y Q sh rx ry q
  cases rx <;> cases ry <;> first
    | exact q.no
    | exact ⟨_, _, rfl, rfl, q.val (.refl _ _ _) sh _ (h _ _ _ _)⟩
theorem pr_IIc {C : Int → Int → Prop} {p : Int → Int → Bool} {f : Int → Int → D} {fv : Int → Int → V} (hp : ∀ i j, p i j = true → C i j) (h : ∀ ι H i j, RelD g ι H (f i j) (fv i j)) : Pr2 g (rI C fv) (dIIc p f) := by
  intro W σ ι G H d e x y Q sh rx ry q
  cases rx <;> cases ry <;> first
    | exact q.no
    | skip
  rename_i i j
  unfold dIIc at q
  dsimp only at q
  by_cases hc : p i j = true
  · rw [if_pos hc] at q
    exact ⟨_, _, rfl, rfl, hp _ _ hc, q.val (.refl _ _ _) sh _ (h _ _ _ _)⟩
  · rw [if_neg hc] at q
    exact q.no
theorem Pr2.or {r r' : R2} {F F' : D → D → Mm D} (p : Pr2 g r F) (p' : Pr2 g r' F') : Pr2 g (fun x y H Q => r x y H Q ∨ r' x y H Q) (fun d e G => match F d e G with
    | some z => some z
    | none => F' d e G) := by
  intro W σ ι G H d e x y Q sh rx ry q
  cases hF : F d e G with
  | some z =>
    refine .inl (p W σ ι G H d e x y Q sh rx ry ?_)
    rw [hF]
    dsimp only at q
    rw [hF] at q
    exact q
  | none =>
    refine .inr (p' W σ ι G H d e x y Q sh rx ry ?_)
    dsimp only at q
    rw [hF] at q
    exact q
end
def dSub : D → D → Mm D := dII fun i j => .int (i - j)
def okMul (i j : Int) : Bool := decide (-(2 ^ 64) < i ∧ i < 2 ^ 64) || decide (-(2 ^ 64) < j ∧ j < 2 ^ 64)
def dMulI : D → D → Mm D := dIIc okMul fun i j => .int (i * j)
def okDiv (_ j : Int) : Bool := decide (0 < j) && decide (j.natAbs.log2 < 9000)
def dFdiv : D → D → Mm D := dIIc okDiv fun i j => .int (i / j)
def dMod : D → D → Mm D := dIIc (fun _ j => decide (0 < j)) fun i j => .int (i % j)
def okPow (i j : Int) : Bool := decide (0 ≤ j ∧ j ≤ 1000000) && decide (i.natAbs < 2 ^ 64)
def dPow : D → D → Mm D := dIIc okPow fun i j => .int (i ^ j.toNat)
def dLe : D → D → Mm D := dII fun i j => .bl (decide (i ≤ j))
def dGt : D → D → Mm D := dII fun i j => .bl (decide (j < i))
def dGe : D → D → Mm D := dII fun i j => .bl (decide (j ≤ i))
def dNeg : D → Mm D := fun d G => match d with
  | .int i => some (.val (.int (-i)), G)
  | _ => none
section
variable {g : Gm} {c : Sc} {a b : Expr} {fa fb : SE} {pos : Pos}
theorem okMul_c {i j : Int} (h : okMul i j = true) : CMul i j := by
  unfold okMul at h
  rw [Bool.or_eq_true] at h
  exact h.imp of_decide_eq_true of_decide_eq_true
theorem okDiv_c {i j : Int} (h : okDiv i j = true) : CDivW i j := by
  unfold okDiv at h
  rw [Bool.and_eq_true] at h
  exact ⟨of_decide_eq_true h.1, of_decide_eq_true h.2⟩
theorem okPow_c {i j : Int} (h : okPow i j = true) : CPow i j := by
  unfold okPow at h
  rw [Bool.and_eq_true] at h
  exact ⟨(of_decide_eq_true h.1).1, (of_decide_eq_true h.1).2, of_decide_eq_true h.2⟩
theorem fe_neg (ha : FE g c a fa) : FE g c (.UnaryOp .USub a pos) (eUn dNeg fa) := fe_un (r := rU fun i => .int (-i)) (fun W σ ι G H d x Q sh rx q => by
  cases rx <;> first | exact q.no | exact ⟨_, rfl, q.val (.refl _ _ _) sh _ (.int _)⟩) (fun _ _ => un_neg) ha
end
def dCatS : D → D → Mm D := fun d e G => match d, e with
  | .str x, .str y => if x.length + y.length ≤ 100000 then some (.val (.str (x ++ y)), G) else none
  | _, _ => none
def dCatT : D → D → Mm D := fun d e G => match d, e with
  | .tup xs, .tup ys => if xs.length + ys.length ≤ 100000 then some (.val (.tup (xs ++ ys)), G) else none
  | _, _ => none
def dCatL : D → D → Mm D := fun d e G => match d, e with
  | .ref n, .ref m => match G[n]?, G[m]? with
    | some (.lst xs), some (.lst ys) => if xs.length + ys.length ≤ 100000 then some (.val (.ref G.length), G ++ [.lst (xs ++ ys)]) else none
    | _, _ => none
  | _, _ => none
def dAdd : D → D → Mm D := fun d e G => match d, e with
  | .int i, .int j => some (.val (.int (i + j)), G)
  | .str _, .str _ => dCatS d e G
  | .tup _, .tup _ => dCatT d e G
  | .ref _, .ref _ => dCatL d e G
  | _, _ => none
section
variable {g : Gm} {c : Sc} {a b : Expr} {fa fb : SE} {pos : Pos}
theorem lst_at {ι : List Addr} {G : Hh} {H : Hp} (sh : SimH g ι G H) {n : Nat} {a : Addr} (ha : ι[n]? = some a) {xs : List D} (e : G[n]? = some (.lst xs)) : ∃ vs, H a = some (.lst vs) ∧ RelDs g ι H xs vs := by
  obtain ⟨u, hu, ro⟩ := sh.at_ n _ a e ha
  cases ro with
  | lst r => exact ⟨_, hu, r⟩
theorem pr_add (X : Cx) (hK : X.K = g.K) : Pr2 g (fun x y H Q => rI0 (fun i j => .int (i + j)) x y H Q ∨ (∃ i j, x = .str i ∧ y = .str j ∧ i.length + j.length ≤ sizeLine ∧ Q (.str (i ++ j)) H) ∨ rCatA X.K x y H Q ∨ rCat x y H Q) dAdd := by
  intro W σ ι G H d e x y Q sh rx ry q
  cases rx with
  | int i =>
    cases ry with
    | int j => exact .inl ⟨i, j, rfl, rfl, q.val (.refl _ _ _) sh _ (.int _)⟩
    | _ => exact q.no
  | str i =>
    cases ry with
    | str j =>
      refine .inr (.inl ⟨i, j, rfl, rfl, ?_⟩)
      unfold dAdd dCatS at q
      dsimp only at q
      by_cases hc : i.length + j.length ≤ 100000
      · rw [if_pos hc] at q
        exact ⟨line_of hc, q.val (.refl _ _ _) sh _ (.str _)⟩
      · rw [if_neg hc] at q; exact q.no
    | _ => exact q.no
  | @tup xs a vs ha ra =>
    cases ry with
    | @tup ys b ws hb rb =>
      refine .inr (.inr (.inl ⟨a, b, vs, ws, rfl, rfl, .inl (.inl ha), .inl (.inl hb), ?_⟩))
      unfold dAdd dCatT at q
      dsimp only at q
      by_cases hc : xs.length + ys.length ≤ 100000
      · rw [if_pos hc] at q
        refine ⟨by rw [← ra.length, ← rb.length]; exact line_of hc, fun e => ?_, fun _ e => ?_, fun _ _ p hp => ?_⟩
        · have ex : xs = [] := List.eq_nil_of_length_eq_zero (by rw [ra.length, e]; rfl)
          subst ex
          exact q.val (.refl _ _ _) sh _ (.tup hb rb)
        · have ex : ys = [] := List.eq_nil_of_length_eq_zero (by rw [rb.length, e]; rfl)
          subst ex
          rw [List.append_nil] at q
          exact q.val (.refl _ _ _) sh _ (.tup ha ra)
        · exact q.val (stp_upd_new hp) (sh.new hp) _ (new_tup hp (ra.append rb))
      · rw [if_neg hc] at q; exact q.no
    | _ => exact q.no
  | @ref n a ha =>
    cases ry with
    | @ref m b hb =>
      unfold dAdd dCatL at q
      dsimp only at q
      cases e1 : G[n]? with
      | none => rw [e1] at q; exact q.no
      | some o1 =>
        cases o1 with
        | lst xs =>
          cases e2 : G[m]? with
          | none => rw [e1, e2] at q; exact q.no
          | some o2 =>
            cases o2 with
            | lst ys =>
              rw [e1, e2] at q
              dsimp only at q
              by_cases hc : xs.length + ys.length ≤ 100000
              · rw [if_pos hc] at q
                obtain ⟨vs, h1, r1⟩ := lst_at sh ha e1
                obtain ⟨ws, h2, r2⟩ := lst_at sh hb e2
                refine .inr (.inr (.inr ⟨a, b, vs, ws, rfl, rfl, h1, h2, by rw [← r1.length, ← r2.length]; exact line_of hc, fun p hp => ?_⟩))
                obtain ⟨st, sm, rd⟩ := new_lst sh hp (r1.append r2)
                exact q.val st sm _ rd
              · rw [if_neg hc] at q; exact q.no
            | _ => rw [e1, e2] at q; exact q.no
        | _ => rw [e1] at q; exact q.no
    | _ => exact q.no
  | _ => exact q.no
end
def intsOf : List D → Option (List Int)
  | [] => some []
  | .int i :: r => (intsOf r).map (i :: ·)
  | _ :: _ => none
theorem rel_ints {g : Gm} {ι : List Addr} {H : Hp} : ∀ {xs : List D} {vs : List V} {ns : List Int}, RelDs g ι H xs vs → intsOf xs = some ns → vs = ns.map V.int
  | _, _, _, .nil, e => by cases e; rfl
  | _, _, ns, .cons (d := d) r t, e => by
    cases r with
    | int i =>
      have e' : (intsOf _).map (i :: ·) = some ns := e
      cases h : intsOf _ with
      | none => rw [h] at e'; cases e'
      | some ms =>
        rw [h] at e'
        cases e'
        rw [rel_ints t h]
        rfl
    | _ => cases e
def dLtA : D → D → Mm D := fun d e G => match d, e with
  | .int i, .int j => some (.val (.bl (decide (i < j))), G)
  | .tup xs, .tup ys => match intsOf xs, intsOf ys with
    | some ns, some ms => some (.val (.bl (HT.lexLt ns ms)), G)
    | _, _ => none
  | _, _ => none
section
variable {g : Gm} {c : Sc} {a b : Expr} {fa fb : SE} {pos : Pos}
theorem pr_lt (X : Cx) (hK : X.K = g.K) : Pr2 g (fun x y H Q => rI0 (fun i j => .bl (decide (i < j))) x y H Q ∨ rLtT X.K x y H Q) dLtA := by
  intro W σ ι G H d e x y Q sh rx ry q
  cases rx with
  | int i =>
    cases ry with
    | int j => exact .inl ⟨i, j, rfl, rfl, q.val (.refl _ _ _) sh _ (.bl _)⟩
    | _ => exact q.no
  | @tup xs a vs ha ra =>
    cases ry with
    | @tup ys b ws hb rb =>
      unfold dLtA at q
      dsimp only at q
      cases e1 : intsOf xs with
      | none => rw [e1] at q; exact q.no
      | some ns =>
        cases e2 : intsOf ys with
        | none => rw [e1, e2] at q; exact q.no
        | some ms =>
          rw [e1, e2] at q
          have h1 := rel_ints ra e1
          have h2 := rel_ints rb e2
          subst h1 h2
          exact .inr ⟨a, b, ns, ms, rfl, rfl, .inl (.inl ha), .inl (.inl hb), q.val (.refl _ _ _) sh _ (.bl _)⟩
    | _ => exact q.no
  | _ => exact q.no
theorem XIs.hu {X : Cx} (i : XIs g c X) : X.A.units + 64 < cLine := by have := i.un; omega
theorem XIs.hu0 {X : Cx} (i : XIs g c X) : X.A.units < cLine := by have := i.un; omega
theorem XIs.hu1 {X : Cx} (i : XIs g c X) : X.A.units + 1 < cLine := by have := i.un; omega
theorem op_lt_any {X : Cx} (i : XIs g c X) : OpR X (compareOp .Lt) (fun x y H Q => rI0 (fun i j => .bl (decide (i < j))) x y H Q ∨ rLtT X.K x y H Q) := op_lt.or (op_ltT i.hu0)
end
end FI
set_option maxRecDepth 100000
set_option maxHeartbeats 1000000
namespace FI
open PySem L2 PySem.Spec PyProof.Rows
def orF (F F' : D → D → Mm D) : D → D → Mm D := fun d e G => match F d e G with
  | some z => some z
  | none => F' d e G
structure CmpOk (g : Gm) (op : CmpOp) (F : D → D → Mm D) : Prop where
  run : ∀ c X, XIs g c X → ∃ r, OpR X (compareOp op) r ∧ Pr2 g r F
theorem CmpOk.or {g : Gm} {op : CmpOp} {F F' : D → D → Mm D} (h : CmpOk g op F) (h' : CmpOk g op F') : CmpOk g op (orF F F') := ⟨fun c X i => by
  obtain ⟨r, o, p⟩ := h.run c X i
  obtain ⟨r', o', p'⟩ := h'.run c X i
  exact ⟨_, o.or o', p.or p'⟩⟩
section
variable {g : Gm} {c : Sc} {a b x1 x2 x3 : Expr} {fa fb fc : SE} {pos : Pos} {op op' : CmpOp} {F F' : D → D → Mm D}
theorem fe_cmpO (h : CmpOk g op F) (ha : FE g c a fa) (hb : FE g c b fb) (hm : behindInMarks op b = false := by rfl) : FE g c (.Compare a [op] [b] pos) (eOp F fa fb) :=
  ⟨fun X i W t => let ⟨_, ho, p⟩ := h.run c X i; two (pe_cmpR ho (ha.run X i W t) (hb.run X i W t) hm) p⟩
theorem ft_cmpO (h : CmpOk g op F) (ha : FE g c a fa) (hb : FE g c b fb) (hm : behindInMarks op b = false := by rfl) : FT g c (.Compare a [op] [b] pos) (tB (eOp F fa fb)) :=
  ⟨fun X i W t => let ⟨_, ho, p⟩ := h.run c X i; pt_imp (L2.pt_cmpR ho (ha.run X i W t) (hb.run X i W t) hm) fun σ H Q ⟨ι, gs, G, ss, sh, h⟩ => ⟨ι, gs, G, ss, sh, (h.bnd.imp fun _ _ _ _ _ _ z => z).bnd.imp fun d ι1 G1 H1 s1 t1 h1 v rv =>
    ⟨ι1, gs, G1, ss.mono s1, t1, h1.bnd.imp fun e ι2 G2 H2 s2 t2 h2 w rw' => p W σ ι2 G2 H2 d e v w _ t2 (rv.mono s2) rw' (h2.imp fun z ι3 G3 H3 s3 t3 h3 u ru => by
      cases ru <;> first | exact h3.no | exact ⟨_, rfl, h3.val (.refl _ _ _) t3⟩)⟩⟩⟩
theorem fe_chainO (h : CmpOk g op F) (h' : CmpOk g op' F') (ha : FE g c x1 fa) (hb : FE g c x2 fb) (hc : FE g c x3 fc) (hm : lastMarks [op, op'] [x2, x3] = false := by rfl) : FE g c (.Compare x1 [op, op'] [x2, x3] pos) (eChain F F' fa fb fc) :=
  ⟨fun X i W t => by
    obtain ⟨_, ho, p⟩ := h.run c X i
    obtain ⟨_, ho', p'⟩ := h'.run c X i
    exact pe_imp (pe_chain ho ho' (ha.run X i W t) (hb.run X i W t) (hc.run X i W t) hm) fun σ H Q ⟨ι, gs, G, ss, sh, h⟩ => ⟨ι, gs, G, ss, sh, h.bnd.imp fun d ι1 G1 H1 s1 t1 h1 v rv =>
      ⟨ι1, gs, G1, ss.mono s1, t1, h1.bnd.imp fun e ι2 G2 H2 s2 t2 h2 w rw' => p W σ ι2 G2 H2 d e v w _ t2 (rv.mono s2) rw' (h2.bnd.imp fun k ι3 G3 H3 s3 t3 h3 z rz => by
        cases rz with
        | bl b =>
          cases b with
          | true => exact ⟨true, rfl, ι3, gs, G3, ((ss.mono s1).mono s2).mono s3, t3, h3.bnd.imp fun y ι4 G4 H4 s4 t4 h4 u ru => p' W σ ι4 G4 H4 e y w u Q t4 ((rw'.mono s3).mono s4) ru h4⟩
          | false => exact ⟨false, rfl, h3.val (.refl _ _ _) t3 _ (.bl false)⟩
        | _ => exact h3.no)⟩⟩⟩
end
def optAll {α : Type} : List (Option α) → Option (List α)
  | [] => some []
  | some a :: r => (optAll r).map (a :: ·)
  | none :: _ => none
def pd (G : Hh) : Nat → D → Option PyData
  | 0, _ => none
  | _ + 1, .non => some .none
  | _ + 1, .bl b => some (.bool b)
  | _ + 1, .int i => some (.int i)
  | _ + 1, .str x => some (.str x)
  | n + 1, .tup xs => (optAll (xs.map (pd G n))).map .tuple
  | n + 1, .kt xs => (optAll (xs.map (pd G n))).map .tuple
  | n + 1, .kl xs => (optAll (xs.map (pd G n))).map .list
  | n + 1, .ref m => match G[m]? with
    | some (.lst xs) => (optAll (xs.map (pd G n))).map .list
    | _ => none
  | _ + 1, _ => none
section
variable {g : Gm} {ι : List Addr} {G : Hh} {H : Hp}
theorem pd_all {n : Nat} (ih : ∀ d v p, RelD g ι H d v → pd G n d = some p → Dp g.K H v p) : ∀ {xs : List D} {vs : List V} {ps : List PyData}, RelDs g ι H xs vs → optAll (xs.map (pd G n)) = some ps → DpAll g.K H vs ps
  | _, _, _, .nil, e => by cases e; exact .nil
  | d :: xs, v :: vs, ps, .cons r t, e => by
    rw [List.map_cons] at e
    cases h : pd G n d with
    | none => rw [h] at e; cases e
    | some p =>
      rw [h] at e
      have e' : (optAll (xs.map (pd G n))).map (p :: ·) = some ps := e
      obtain ⟨qs, h1, h2⟩ := Option.map_eq_some_iff.mp e'
      subst h2
      exact .cons (ih _ _ _ r h) (pd_all ih t h1)
theorem pd_ok (sh : SimH g ι G H) : ∀ (n : Nat) (d : D) (v : V) (p : PyData), RelD g ι H d v → pd G n d = some p → Dp g.K H v p
  | 0, _, _, _, _, e => by cases e
  | n + 1, d, v, p, r, e => by
    have ih := pd_ok sh n
    cases r with
    | non => cases e; exact .non
    | bl b => cases e; exact .bl b
    | int i => cases e; exact .int i
    | str x => cases e; exact .str x
    | @tup xs a vs ha rs =>
      have e' : (optAll (xs.map (pd G n))).map PyData.tuple = some p := e
      obtain ⟨ps, h1, rfl⟩ := Option.map_eq_some_iff.mp e'
      exact .tup (.inl (.inl ha)) (pd_all ih rs h1)
    | @kt xs a vs ha rs =>
      have e' : (optAll (xs.map (pd G n))).map PyData.tuple = some p := e
      obtain ⟨ps, h1, rfl⟩ := Option.map_eq_some_iff.mp e'
      exact .tup ha.sq (pd_all ih rs h1)
    | @kl xs a vs ha rs =>
      have e' : (optAll (xs.map (pd G n))).map PyData.list = some p := e
      obtain ⟨ps, h1, rfl⟩ := Option.map_eq_some_iff.mp e'
      exact .lst ha.sq (pd_all ih rs h1)
    | @ref m a ha =>
      unfold pd at e
      cases hm : G[m]? with
      | none => rw [hm] at e; cases e
      | some o =>
        rw [hm] at e
        cases o with
        | lst xs =>
          dsimp only at e
          obtain ⟨ps, h1, rfl⟩ := Option.map_eq_some_iff.mp e
          obtain ⟨vs, hv, rv⟩ := lst_at sh ha hm
          exact .lst (.inl (.inl hv)) (pd_all ih rv h1)
        | _ => cases e
    | glb _ => cases e
    | ty _ => cases e
    | xo _ _ _ _ _ _ _ _ => cases e
end
def pdS (G : Hh) (d : D) : Option PyData := match pd G 8 d with
  | some p => if SeqAt.shaped p = true then some p else none
  | none => none
theorem pdS_ok {g : Gm} {ι : List Addr} {G : Hh} {H : Hp} (sh : SimH g ι G H) {d : D} {v : V} {p : PyData} (r : RelD g ι H d v) (e : pdS G d = some p) : Dp g.K H v p ∧ SeqAt.shaped p = true := by
  unfold pdS at e
  cases h : pd G 8 d with
  | none => rw [h] at e; cases e
  | some q =>
    rw [h] at e
    dsimp only at e
    by_cases hq : SeqAt.shaped q = true
    · rw [if_pos hq] at e
      cases e
      exact ⟨pd_ok sh 8 d v p r h, hq⟩
    · rw [if_neg hq] at e; cases e
def dEqv (neg : Bool) : D → D → Mm D := fun d e G => match pdS G d, pdS G e with
  | some p, some q => some (.val (.bl (neg ^^ PyData.eqv p q)), G)
  | _, _ => none
section
variable {g : Gm}
theorem pr_eqv (neg : Bool) {r : R2} (hr : ∀ x y H Q d e, Dp g.K H x d → Dp g.K H y e → SeqAt.shaped d = true → SeqAt.shaped e = true → Q (.bl (neg ^^ PyData.eqv d e)) H → r x y H Q) : Pr2 g r (dEqv neg) := by
  intro W σ ι G H d e x y Q sh rx ry q
  unfold dEqv at q
  cases h1 : pdS G d with
  | none => rw [h1] at q; exact q.no
  | some p1 =>
    cases h2 : pdS G e with
    | none => rw [h1, h2] at q; exact q.no
    | some p2 =>
      rw [h1, h2] at q
      obtain ⟨a1, b1⟩ := pdS_ok sh rx h1
      obtain ⟨a2, b2⟩ := pdS_ok sh ry h2
      exact hr x y H Q p1 p2 a1 a2 b1 b2 (q.val (.refl _ _ _) sh _ (.bl _))
theorem co_eq : CmpOk g .Eq (dEqv false) := ⟨fun c X i => ⟨_, op_eqD i.hu, by rw [i.K]; exact pr_eqv false fun x y H Q d e h1 h2 h3 h4 q => ⟨d, e, h1, h2, h3, h4, by simpa using q⟩⟩⟩
theorem co_ne : CmpOk g .NotEq (dEqv true) := ⟨fun c X i => ⟨_, op_neD i.hu, by rw [i.K]; exact pr_eqv true fun x y H Q d e h1 h2 h3 h4 q => ⟨d, e, h1, h2, h3, h4, by simpa using q⟩⟩⟩
end
def D.isN : D → Bool
  | .non => true
  | _ => false
def D.isB (b : Bool) : D → Bool
  | .bl c => c == b
  | _ => false
def dIs (neg : Bool) : D → D → Mm D := fun d e G => match e with
  | .non => some (.val (.bl (neg ^^ d.isN)), G)
  | .bl b => some (.val (.bl (neg ^^ d.isB b)), G)
  | _ => none
def plainV : V → Bool
  | .non => true
  | .bl _ => true
  | .int _ => true
  | .str _ => true
  | .ref _ => true
  | .ty _ => true
  | _ => false
def rIsAny (neg : Bool) : R2 := fun x y H Q => plainV x = true ∧ ((y = .non ∧ Q (.bl (neg ^^ decide (x = .non))) H) ∨ ∃ b, y = .bl b ∧ Q (.bl (neg ^^ decide (x = .bl b))) H)
theorem is_cases {x : V} {v : Value} (rx : RelV x v) (hp : plainV x = true) : (plainIs v .none = true ∧ (v == Value.none) = decide (x = .non)) ∧ ∀ b, plainIs v (.bool b) = true ∧ (v == Value.bool b) = decide (x = .bl b) := by
  cases x with
  | non => cases rx; exact ⟨⟨rfl, by simp⟩, fun b => ⟨rfl, by simp⟩⟩
  | bl c =>
    cases (show v = Value.bool c from rx)
    refine ⟨⟨rfl, by simp⟩, fun b => ⟨rfl, ?_⟩⟩
    cases b <;> cases c <;> simp
  | int i => obtain ⟨t, rfl⟩ := rx; exact ⟨⟨rfl, by simp⟩, fun b => ⟨rfl, by simp⟩⟩
  | str i => obtain ⟨t, rfl⟩ := rx; exact ⟨⟨rfl, by simp⟩, fun b => ⟨rfl, by simp⟩⟩
  | ref a => cases (show v = Value.ref a from rx); exact ⟨⟨rfl, by simp⟩, fun b => ⟨rfl, by simp⟩⟩
  | ty a => cases (show v = Value.type a from rx); exact ⟨⟨rfl, by simp⟩, fun b => ⟨rfl, by simp⟩⟩
  | _ => cases hp
theorem op_isAny {X : Cx} : OpR X (compareOp .Is) (rIsAny false) := by
  intro pins s σ H x y v u Q I rx ry ⟨hp, h⟩
  obtain ⟨⟨h1, h2⟩, h3⟩ := is_cases rx hp
  rcases h with ⟨rfl, q⟩ | ⟨b, rfl, q⟩
  · cases (show u = Value.none from ry)
    exact wpAny_is_plain h1 (fin_bl I q (by rw [h2]; simp))
  · cases (show u = Value.bool b from ry)
    exact wpAny_is_plain (h3 b).1 (fin_bl I q (by rw [(h3 b).2]; simp))
theorem op_isNotAny {X : Cx} : OpR X (compareOp .IsNot) (rIsAny true) := by
  intro pins s σ H x y v u Q I rx ry ⟨hp, h⟩
  obtain ⟨⟨h1, h2⟩, h3⟩ := is_cases rx hp
  rcases h with ⟨rfl, q⟩ | ⟨b, rfl, q⟩
  · cases (show u = Value.none from ry)
    exact wpAny_isNot_plain h1 (fin_bl I q (by rw [h2]; simp))
  · cases (show u = Value.bool b from ry)
    exact wpAny_isNot_plain (h3 b).1 (fin_bl I q (by rw [(h3 b).2]; simp))
section
variable {g : Gm}
theorem rel_plain {ι : List Addr} {H : Hp} {d : D} {v : V} (r : RelD g ι H d v) : plainV v = true ∧ decide (v = .non) = d.isN ∧ ∀ b, decide (v = .bl b) = d.isB b := by
  cases r <;> refine ⟨rfl, ?_, fun b => ?_⟩ <;> simp [D.isN, D.isB]
  rename_i c
  cases b <;> cases c <;> rfl
theorem pr_is (neg : Bool) : Pr2 g (rIsAny neg) (dIs neg) := by
  intro W σ ι G H d e x y Q sh rx ry q
  obtain ⟨h1, h2, h3⟩ := rel_plain rx
  cases ry with
  | non => exact ⟨h1, .inl ⟨rfl, by rw [h2]; exact q.val (.refl _ _ _) sh _ (.bl _)⟩⟩
  | bl b => exact ⟨h1, .inr ⟨b, rfl, by rw [h3]; exact q.val (.refl _ _ _) sh _ (.bl _)⟩⟩
  | _ => exact q.no
theorem co_is : CmpOk g .Is (dIs false) := ⟨fun c X i => ⟨_, op_isAny, pr_is false⟩⟩
theorem co_isnt : CmpOk g .IsNot (dIs true) := ⟨fun c X i => ⟨_, op_isNotAny, pr_is true⟩⟩
end
theorem co_lt {g : Gm} : CmpOk g .Lt dLtA := ⟨fun c X i => ⟨_, op_lt_any i, pr_lt X i.K⟩⟩
theorem co_le {g : Gm} : CmpOk g .LtE dLe := ⟨fun c X i => ⟨_, op_le, pr_II fun _ _ _ _ => .bl _⟩⟩
theorem co_gt {g : Gm} : CmpOk g .Gt dGt := ⟨fun c X i => ⟨_, op_gt, pr_II fun _ _ _ _ => .bl _⟩⟩
theorem co_ge {g : Gm} : CmpOk g .GtE dGe := ⟨fun c X i => ⟨_, op_ge, pr_II fun _ _ _ _ => .bl _⟩⟩
section
variable {κ : Type} [DecidableEq κ]
def getK (kvs : List (κ × D)) (k : κ) : Option D := (kvs.find? fun kv => decide (kv.1 = k)).map (·.2)
def setK (kvs : List (κ × D)) (k : κ) (d : D) : List (κ × D) :=
  if (kvs.any fun kv => decide (kv.1 = k)) = true then kvs.map (fun kv => if kv.1 = k then (kv.1, d) else kv) else kvs ++ [(k, d)]
variable {g : Gm} {ι : List Addr} {H : Hp}
theorem RelKv.get {r : List (κ × D)} {q : List (κ × V)} (h : RelKv g ι H r q) (k : κ) : (getK r k = none ∧ valV q k = none) ∨ ∃ d v, getK r k = some d ∧ valV q k = some v ∧ RelD g ι H d v := by
  induction h with
  | nil => exact .inl ⟨rfl, rfl⟩
  | @cons k' d v r q a _ ih =>
    by_cases e : k' = k
    · exact .inr ⟨d, v, by simp [getK, List.find?_cons, e], by simp [valV, List.find?_cons, e], a⟩
    · have e1 : getK ((k', d) :: r) k = getK r k := by simp [getK, List.find?_cons, e]
      have e2 : valV ((k', v) :: q) k = valV q k := by simp [valV, List.find?_cons, e]
      rw [e1, e2]
      exact ih
theorem RelKv.length {r : List (κ × D)} {q : List (κ × V)} (h : RelKv g ι H r q) : r.length = q.length := by
  induction h with
  | nil => rfl
  | cons _ _ ih => simp [ih]
theorem RelKv.anyK {r : List (κ × D)} {q : List (κ × V)} (h : RelKv g ι H r q) (k : κ) : (r.any fun kv => decide (kv.1 = k)) = (q.any fun kv => decide (kv.1 = k)) := by
  induction h with
  | nil => rfl
  | cons _ _ ih => simp [List.any_cons, ih]
theorem RelKv.snoc {r : List (κ × D)} {q : List (κ × V)} (h : RelKv g ι H r q) (k : κ) {d : D} {v : V} (a : RelD g ι H d v) : RelKv g ι H (r ++ [(k, d)]) (q ++ [(k, v)]) := by
  induction h with
  | nil => exact .cons a .nil
  | cons b _ ih => exact .cons b ih
theorem RelKv.setM {r : List (κ × D)} {q : List (κ × V)} (h : RelKv g ι H r q) (k : κ) {d : D} {v : V} (a : RelD g ι H d v) : RelKv g ι H (r.map (fun kv => if kv.1 = k then (kv.1, d) else kv)) (q.map (fun kv => if kv.1 = k then (kv.1, v) else kv)) := by
  induction h with
  | nil => exact .nil
  | @cons k' d' v' r q b _ ih =>
    rw [List.map_cons, List.map_cons]
    dsimp only
    by_cases e : k' = k
    · rw [if_pos e, if_pos e]; exact .cons a ih
    · rw [if_neg e, if_neg e]; exact .cons b ih
theorem RelKv.set {r : List (κ × D)} {q : List (κ × V)} (h : RelKv g ι H r q) (k : κ) {d : D} {v : V} (a : RelD g ι H d v) : RelKv g ι H (setK r k d) (putK q k v) := by
  unfold setK putK
  rw [h.anyK k]
  split
  · exact h.setM k a
  · exact h.snoc k a
end
def keyD : D → Option Key
  | .int i => some (.inl i)
  | .str x => some (.inr x)
  | _ => none
def keysD : List D → Option (List Key)
  | [] => some []
  | .int i :: r => (keysD r).map (.inl i :: ·)
  | .str x :: r => (keysD r).map (.inr x :: ·)
  | _ :: _ => none
section
variable {g : Gm} {ι : List Addr} {G : Hh} {H : Hp}
theorem rel_keys : ∀ {xs : List D} {vs : List V} {ks : List Key}, RelDs g ι H xs vs → keysD xs = some ks → vs = ks.map kV
  | _, _, _, .nil, e => by cases e; rfl
  | _, _, ns, .cons (d := d) r t, e => by
    cases r with
    | int i =>
      have e' : (keysD _).map (Sum.inl i :: ·) = some ns := e
      obtain ⟨ms, h1, rfl⟩ := Option.map_eq_some_iff.mp e'
      rw [rel_keys t h1]
      rfl
    | str i =>
      have e' : (keysD _).map (Sum.inr i :: ·) = some ns := e
      obtain ⟨ms, h1, rfl⟩ := Option.map_eq_some_iff.mp e'
      rw [rel_keys t h1]
      rfl
    | _ => cases e
theorem dk_at (sh : SimH g ι G H) {n : Nat} {a : Addr} (ha : ι[n]? = some a) {xs : List (Key × D)} (e : G[n]? = some (.dK xs)) : ∃ vs, H a = some (.dK vs) ∧ RelKv g ι H xs vs := by
  obtain ⟨u, hu, ro⟩ := sh.at_ n _ a e ha
  cases ro with
  | dK r => exact ⟨_, hu, r⟩
theorem dt_at (sh : SimH g ι G H) {n : Nat} {a : Addr} (ha : ι[n]? = some a) {xs : List (List Key × D)} (e : G[n]? = some (.dT xs)) : ∃ vs, H a = some (.dT vs) ∧ RelKv g ι H xs vs := by
  obtain ⟨u, hu, ro⟩ := sh.at_ n _ a e ha
  cases ro with
  | dT r => exact ⟨_, hu, r⟩
end
def lookO (o : O) (d : D) : Option (Option D) := match o with
  | .dK kvs => (keyD d).map fun k => getK kvs k
  | .dT kvs => match d with
    | .tup xs => (keysD xs).map fun k => getK kvs k
    | _ => none
  | .dF kvs => match d with
    | .tup xs => (keysD xs).map fun k => getK kvs k
    | _ => none
  | _ => none
theorem df_at {g : Gm} {ι : List Addr} {G : Hh} {H : Hp} (sh : SimH g ι G H) {n : Nat} {a : Addr} (ha : ι[n]? = some a) {xs : List (List Key × D)} (e : G[n]? = some (.dF xs)) : ∃ od vs, H a = some (.frz od (.dT vs)) ∧ RelKv g ι H xs vs := by
  obtain ⟨u, hu, ro⟩ := sh.at_ n _ a e ha
  cases ro with
  | dF r => exact ⟨_, _, hu, r⟩
theorem look_get {g : Gm} {ι : List Addr} {G : Hh} {H : Hp} (sh : SimH g ι G H) {n : Nat} {a : Addr} (ha : ι[n]? = some a) {o : O} (e : G[n]? = some o) {d : D} {v : V} (r : RelD g ι H d v) {z : Option D} (hz : lookO o d = some z) :
    ∃ w, DGet H a v w ∧ ((z = none ∧ w = none) ∨ ∃ x y, z = some x ∧ w = some y ∧ RelD g ι H x y) := by
  cases o with
  | dK kvs =>
    obtain ⟨vs, h1, h2⟩ := dk_at sh ha e
    have key : ∀ k, keyD d = some k → v = kV k := by
      intro k hk
      cases r <;> cases hk <;> rfl
    obtain ⟨k, hk, rfl⟩ := Option.map_eq_some_iff.mp (show (keyD d).map (fun k => getK kvs k) = some z from hz)
    have e := key k hk
    subst e
    refine ⟨_, DGet.k h1, ?_⟩
    rcases h2.get k with ⟨a1, a2⟩ | ⟨x, y, a1, a2, a3⟩
    · exact .inl ⟨a1, a2⟩
    · exact .inr ⟨x, y, a1, a2, a3⟩
  | dT kvs =>
    obtain ⟨vs, h1, h2⟩ := dt_at sh ha e
    cases r with
    | @tup xs b ws hb rs =>
      obtain ⟨k, hk, rfl⟩ := Option.map_eq_some_iff.mp (show (keysD xs).map (fun k => getK kvs k) = some z from hz)
      have e := rel_keys rs hk
      subst e
      refine ⟨_, DGet.t h1 hb, ?_⟩
      rcases h2.get k with ⟨a1, a2⟩ | ⟨x, y, a1, a2, a3⟩
      · exact .inl ⟨a1, a2⟩
      · exact .inr ⟨x, y, a1, a2, a3⟩
    | _ => cases hz
  | dF kvs =>
    obtain ⟨od, vs, h1, h2⟩ := df_at sh ha e
    cases r with
    | @tup xs b ws hb rs =>
      obtain ⟨k, hk, rfl⟩ := Option.map_eq_some_iff.mp (show (keysD xs).map (fun k => getK kvs k) = some z from hz)
      have e := rel_keys rs hk
      subst e
      refine ⟨_, .inr ⟨vs, k, b, .inr ⟨od, h1⟩, rfl, hb, rfl⟩, ?_⟩
      rcases h2.get k with ⟨a1, a2⟩ | ⟨x, y, a1, a2, a3⟩
      · exact .inl ⟨a1, a2⟩
      · exact .inr ⟨x, y, a1, a2, a3⟩
    | _ => cases hz
  | _ => cases hz
def dInD (neg : Bool) : D → D → Mm D := fun d e G => match e with
  | .ref n => match G[n]? with
    | some o => match lookO o d with
      | some z => some (.val (.bl (neg ^^ z.isSome)), G)
      | none => none
    | none => none
  | _ => none
def dInS (neg : Bool) : D → D → Mm D := fun d e G => match pdS G d, pdS G e with
  | some p, some (.list ds) => some (.val (.bl (neg ^^ ds.any fun z => PyData.eqv z p)), G)
  | some p, some (.tuple ds) => some (.val (.bl (neg ^^ ds.any fun z => PyData.eqv z p)), G)
  | _, _ => none
def dIn (neg : Bool) : D → D → Mm D := orF (dInS neg) (dInD neg)
def rInDk (neg : Bool) : R2 := fun x y H Q => ∃ a o, y = .ref a ∧ DGet H a x o ∧ Q (.bl (neg ^^ o.isSome)) H
theorem op_inDk {X : Cx} (hu : X.A.units + 1 < cLine) : OpR X (compareOp .In) (rInDk false) := by
  intro pins s σ H x y v u Q I rx ry ⟨a, o, e, g, q⟩
  subst e
  cases (show u = Value.ref a from ry)
  exact d_in hu I g rx fun s3 I3 => ⟨.bl o.isSome, H, I3, rfl, by simpa using q⟩
theorem op_notInDk {X : Cx} (hu : X.A.units + 1 < cLine) : OpR X (compareOp .NotIn) (rInDk true) := by
  intro pins s σ H x y v u Q I rx ry ⟨a, o, e, g, q⟩
  subst e
  cases (show u = Value.ref a from ry)
  exact d_notIn hu I g rx fun s3 I3 => ⟨.bl (!o.isSome), H, I3, rfl, by simpa using q⟩
def rInSq (neg : Bool) (K : PySem.W.Frag) : R2 := fun x y H Q => ∃ d ds, Dp K H x d ∧ (Dp K H y (.list ds) ∧ SeqAt.shaped (.list ds) = true ∨ Dp K H y (.tuple ds) ∧ SeqAt.shaped (.tuple ds) = true) ∧ SeqAt.shaped d = true ∧ Q (.bl (neg ^^ ds.any fun z => PyData.eqv z d)) H
theorem op_inSq {X : Cx} (hu : X.A.units + 65 < cLine) : OpR X (compareOp .In) (rInSq false X.K) := by
  intro pins s σ H x y v u Q I rx ry h
  obtain ⟨d, ds, hd, he, sd, q⟩ := h
  obtain ⟨as, r1⟩ := Dp.reads I d x v hd rx
  rcases he with ⟨he, se⟩ | ⟨he, se⟩
  · obtain ⟨bs, r2⟩ := Dp.reads I (.list ds) y u he ry
    exact SeqAt.in_list_reads r2 r1 (SeqAt.canLay_of_shaped se) (SeqAt.canLay_of_shaped sd) (room_in_shaped sd hu) ⟨.bl _, H, I, rfl, by simpa using q⟩
  · obtain ⟨bs, r2⟩ := Dp.reads I (.tuple ds) y u he ry
    exact SeqAt.in_tuple_reads r2 r1 (SeqAt.canLay_of_shaped se) (SeqAt.canLay_of_shaped sd) (room_in_shaped sd hu) ⟨.bl _, H, I, rfl, by simpa using q⟩
theorem op_notInSq {X : Cx} (hu : X.A.units + 65 < cLine) : OpR X (compareOp .NotIn) (rInSq true X.K) := by
  intro pins s σ H x y v u Q I rx ry h
  obtain ⟨d, ds, hd, he, sd, q⟩ := h
  obtain ⟨as, r1⟩ := Dp.reads I d x v hd rx
  rcases he with ⟨he, se⟩ | ⟨he, se⟩
  · obtain ⟨bs, r2⟩ := Dp.reads I (.list ds) y u he ry
    exact SeqAt.notIn_list_reads r2 r1 (SeqAt.canLay_of_shaped se) (SeqAt.canLay_of_shaped sd) (room_in_shaped sd hu) ⟨.bl _, H, I, rfl, by simpa using q⟩
  · obtain ⟨bs, r2⟩ := Dp.reads I (.tuple ds) y u he ry
    exact SeqAt.notIn_tuple_reads r2 r1 (SeqAt.canLay_of_shaped se) (SeqAt.canLay_of_shaped sd) (room_in_shaped sd hu) ⟨.bl _, H, I, rfl, by simpa using q⟩
section
variable {g : Gm}
theorem pr_inDk (neg : Bool) : Pr2 g (rInDk neg) (dInD neg) := by
  intro W σ ι G H d e x y Q sh rx ry q
  cases ry with
  | @ref n a ha =>
    unfold dInD at q
    dsimp only at q
    cases h1 : G[n]? with
    | none => rw [h1] at q; exact q.no
    | some o =>
      rw [h1] at q
      dsimp only at q
      cases h2 : lookO o d with
      | none => rw [h2] at q; exact q.no
      | some z =>
        rw [h2] at q
        dsimp only at q
        obtain ⟨w, hg, hw⟩ := look_get sh ha h1 rx h2
        refine ⟨a, w, rfl, hg, ?_⟩
        have e : w.isSome = z.isSome := by rcases hw with ⟨rfl, rfl⟩ | ⟨_, _, rfl, rfl, _⟩ <;> rfl
        rw [e]
        exact q.val (.refl _ _ _) sh _ (.bl _)
  | _ => exact q.no
theorem pr_inSq (neg : Bool) : Pr2 g (rInSq neg g.K) (dInS neg) := by
  intro W σ ι G H d e x y Q sh rx ry q
  unfold dInS at q
  cases h1 : pdS G d with
  | none => rw [h1] at q; exact q.no
  | some p1 =>
    cases h2 : pdS G e with
    | none => rw [h1, h2] at q; exact q.no
    | some p2 =>
      rw [h1, h2] at q
      obtain ⟨a1, b1⟩ := pdS_ok sh rx h1
      obtain ⟨a2, b2⟩ := pdS_ok sh ry h2
      cases p2 with
      | list ds => exact ⟨p1, ds, a1, .inl ⟨a2, b2⟩, b1, q.val (.refl _ _ _) sh _ (.bl _)⟩
      | tuple ds => exact ⟨p1, ds, a1, .inr ⟨a2, b2⟩, b1, q.val (.refl _ _ _) sh _ (.bl _)⟩
      | _ => exact q.no
end
theorem hu65 {u : Nat} (h : u + 65 < cLine) : u + 1 < cLine := by omega
theorem XIs.hu65 {g : Gm} {c : Sc} {X : Cx} (i : XIs g c X) : X.A.units + 65 < cLine := by
  have := i.un
  omega
theorem co_in {g : Gm} : CmpOk g .In (dIn false) := ⟨fun c X i => ⟨_, (op_inSq i.hu65).or (op_inDk i.hu1), by rw [i.K]; exact (pr_inSq false).or (pr_inDk false)⟩⟩
theorem co_notin {g : Gm} : CmpOk g .NotIn (dIn true) := ⟨fun c X i => ⟨_, (op_notInSq i.hu65).or (op_notInDk i.hu1), by rw [i.K]; exact (pr_inSq true).or (pr_inDk true)⟩⟩
end FI
set_option maxRecDepth 100000
set_option maxHeartbeats 1000000
namespace FI
open PySem L2 PySem.Spec PyProof.Rows
structure BinOk (g : Gm) (op : Operator) (F : D → D → Mm D) : Prop where
  run : ∀ c X, XIs g c X → ∃ r, OpR X (binaryOp op) r ∧ Pr2 g r F
theorem fe_binO {g : Gm} {c : Sc} {a b : Expr} {fa fb : SE} {pos : Pos} {op : Operator} {F : D → D → Mm D} (h : BinOk g op F) (ha : FE g c a fa) (hb : FE g c b fb) : FE g c (.BinOp a op b pos) (eOp F fa fb) :=
  ⟨fun X i W t => let ⟨_, ho, p⟩ := h.run c X i; two (pe_op ho (ha.run X i W t) (hb.run X i W t)) p⟩
def dMulL : D → D → Mm D := fun d e G => match d, e with
  | .ref n, .int k => match G[n]? with
    | some (.lst xs) => if 0 ≤ k ∧ k ≤ 100000 ∧ xs.length * k.toNat ≤ 100000 then some (.val (.ref G.length), G ++ [.lst (List.replicate k.toNat xs).flatten]) else none
    | _ => none
  | _, _ => none
def dMul : D → D → Mm D := fun d e => match d, e with
  | .int _, .int _ => dMulI d e
  | _, _ => dMulL d e
theorem pr_mulL {g : Gm} : Pr2 g rRep dMulL := by
  intro W σ ι G H d e x y Q sh rx ry q
  cases rx with
  | @ref n a ha =>
    cases ry with
    | int k =>
      unfold dMulL at q
      dsimp only at q
      cases e1 : G[n]? with
      | none => rw [e1] at q; exact q.no
      | some o1 =>
        cases o1 with
        | lst xs =>
          rw [e1] at q
          dsimp only at q
          by_cases hc : 0 ≤ k ∧ k ≤ 100000 ∧ xs.length * k.toNat ≤ 100000
          · rw [if_pos hc] at q
            obtain ⟨vs, h1, r1⟩ := lst_at sh ha e1
            refine ⟨a, k, vs, rfl, rfl, h1, by omega, by omega, by rw [← r1.length]; exact line_of hc.2.2, fun p hp => ?_⟩
            have hr : RelDs g ι H (List.replicate k.toNat xs).flatten (List.replicate k.toNat vs).flatten := by
              generalize k.toNat = m
              induction m with
              | zero => exact .nil
              | succ m ih => rw [List.replicate_succ, List.replicate_succ, List.flatten_cons, List.flatten_cons]; exact r1.append ih
            obtain ⟨st, sm, rd⟩ := new_lst sh hp hr
            exact q.val st sm _ rd
          · rw [if_neg hc] at q; exact q.no
        | _ => rw [e1] at q; exact q.no
    | _ => exact q.no
  | _ => exact q.no
theorem bo_mul {g : Gm} : BinOk g .Mult dMul := ⟨fun c X i => ⟨_, op_mul.or op_rep, by
  intro W σ ι G H d e x y Q sh rx ry q
  by_cases hd : ∃ i j, d = .int i ∧ e = .int j
  · obtain ⟨i, j, rfl, rfl⟩ := hd
    exact .inl (pr_IIc (p := okMul) (fun _ _ => okMul_c) (fun _ _ _ _ => .int _) W σ ι G H _ _ x y Q sh rx ry q)
  · refine .inr (pr_mulL W σ ι G H d e x y Q sh rx ry ?_)
    have e' : dMul d e = dMulL d e := by
      unfold dMul
      split
      · exact absurd ⟨_, _, rfl, rfl⟩ hd
      · rfl
    rw [e'] at q
    exact q⟩⟩
theorem bo_add {g : Gm} : BinOk g .Add dAdd := ⟨fun c X i => ⟨_, op_add.or (op_add_str.or (op_catA.or op_cat)), pr_add X i.K⟩⟩
theorem bo_sub {g : Gm} : BinOk g .Sub dSub := ⟨fun c X i => ⟨_, op_sub, pr_II fun _ _ _ _ => .int _⟩⟩
theorem bo_fdiv {g : Gm} : BinOk g .FloorDiv dFdiv := ⟨fun c X i => ⟨_, op_fdivW, pr_IIc (fun _ _ => okDiv_c) fun _ _ _ _ => .int _⟩⟩
theorem bo_mod {g : Gm} : BinOk g .Mod dMod := ⟨fun c X i => ⟨_, op_mod, pr_IIc (fun _ _ => of_decide_eq_true) fun _ _ _ _ => .int _⟩⟩
theorem bo_pow {g : Gm} : BinOk g .Pow dPow := ⟨fun c X i => ⟨_, op_pow, pr_IIc (fun _ _ => okPow_c) fun _ _ _ _ => .int _⟩⟩
def itemsD (G : Hh) : D → Option (List D)
  | .tup xs => some xs
  | .kt xs => some xs
  | .kl xs => some xs
  | .ref n => match G[n]? with
    | some (.lst xs) => some xs
    | _ => none
  | _ => none
def dIxS : D → D → Mm D := fun d e G => match itemsD G d, e with
  | some xs, .int i => match atI xs i with
    | some z => some (.val z, G)
    | none => none
  | _, _ => none
def dIxD : D → D → Mm D := fun d e G => match d with
  | .ref n => match G[n]? with
    | some o => match lookO o e with
      | some (some z) => some (.val z, G)
      | _ => none
    | none => none
  | _ => none
def dIxT : D → D → Mm D := fun d e G => match d, e with
  | .str z, .int i => if z.length ≤ 100000 then (match atI z.cps.toList i with
    | some c => some (.val (.str ⟨#[c]⟩), G)
    | none => none) else none
  | _, _ => none
def dIx : D → D → Mm D := orF dIxS (orF dIxD dIxT)
def rIxDk : R2 := fun x y H Q => ∃ a v, x = .ref a ∧ DGet H a y (some v) ∧ Q v H
theorem ix_dict {X : Cx} (hu : X.A.units + 1 < cLine) : IxR X rIxDk := by
  intro value slice pins s σ H x y v u Q I rx ry h hs
  obtain ⟨a, z, rfl, g, q⟩ := h
  obtain rfl : v = Value.ref a := rx
  have hT := dict_typeIs I g
  unfold subscriptTail
  refine wpAny_bind ?_
  rw [getitemInPython_of_ne hT.not_modules]
  refine wpAny_bind (wpAny_specialOf hT PySem.F.slot_dict_getitem.lookup ?_)
  have fin : wpAny (model X.prog X.w) X.A (subscripted slice false (.ref a) u) (fun r s₃ => wpAny (model X.prog X.w) X.A (letTemporaryGo value (.ref a) r >>= fun _ => pure r) (EP X pins σ Q) X.xe s₃) X.xe s := by
    rw [hs]
    exact wpAny_operating (d_getItem hu I g ry fun w' s3 I3 rw' => wpAny_bind (wpAny_letTemporaryGo (wpAny_pure ⟨z, H, I3, rw', q⟩)))
  first
    | exact wpAny_pure (wpAny_bind fin)
    | exact wpAny_bind (wpAny_pure (wpAny_bind fin))
    | exact wpAny_bind fin
section
variable {g : Gm} {ι : List Addr} {G : Hh} {H : Hp}
theorem items_at (sh : SimH g ι G H) {d : D} {v : V} {xs : List D} (r : RelD g ι H d v) (e : itemsD G d = some xs) : ∃ a vs, v = .ref a ∧ (SqL g.K H a vs ∨ SqT g.K H a vs) ∧ RelDs g ι H xs vs := by
  cases r with
  | @tup ys a vs ha rs => cases e; exact ⟨a, vs, rfl, .inr (.inl (.inl ha)), rs⟩
  | @kt ys a vs ha rs => cases e; exact ⟨a, vs, rfl, .inr ha.sq, rs⟩
  | @kl ys a vs ha rs => cases e; exact ⟨a, vs, rfl, .inl ha.sq, rs⟩
  | @ref n a ha =>
    unfold itemsD at e
    dsimp only at e
    cases hm : G[n]? with
    | none => rw [hm] at e; cases e
    | some o =>
      rw [hm] at e
      cases o with
      | lst ys =>
        cases e
        obtain ⟨vs, hv, rv⟩ := lst_at sh ha hm
        exact ⟨a, vs, rfl, .inl (.inl (.inl hv)), rv⟩
      | _ => cases e
  | _ => cases e
theorem RelDs.atI {xs : List D} {vs : List V} {i : Int} {d : D} (r : RelDs g ι H xs vs) (e : L2.atI xs i = some d) : ∃ v, L2.atI vs i = some v ∧ RelD g ι H d v := by
  unfold L2.atI at e ⊢
  rw [← r.length]
  cases h : ixN xs.length i with
  | none => rw [h] at e; cases e
  | some j =>
    rw [h] at e
    exact r.get e
end
theorem pr_ixS {g : Gm} {X : Cx} (hK : X.K = g.K) : Pr2 g (fun x y H Q => rIxL X.K x y H Q ∨ rIxT X.K x y H Q) dIxS := by
  intro W σ ι G H d e x y Q sh rx ry q
  unfold dIxS at q
  cases h1 : itemsD G d with
  | none => rw [h1] at q; exact q.no
  | some xs =>
    cases ry with
    | int i =>
      rw [h1] at q
      dsimp only at q
      cases h2 : atI xs i with
      | none => rw [h2] at q; exact q.no
      | some z =>
        rw [h2] at q
        obtain ⟨a, vs, rfl, hs, rs⟩ := items_at sh rx h1
        obtain ⟨v, hv, rv⟩ := rs.atI h2
        rw [hK]
        rcases hs with hs | hs
        · exact .inl ⟨a, vs, i, v, rfl, rfl, hs, hv, q.val (.refl _ _ _) sh v rv⟩
        · exact .inr ⟨a, vs, i, v, rfl, rfl, hs, hv, q.val (.refl _ _ _) sh v rv⟩
    | _ => rw [h1] at q; exact q.no
theorem pr_ixD {g : Gm} : Pr2 g rIxDk dIxD := by
  intro W σ ι G H d e x y Q sh rx ry q
  cases rx with
  | @ref n a ha =>
    unfold dIxD at q
    dsimp only at q
    cases h1 : G[n]? with
    | none => rw [h1] at q; exact q.no
    | some o =>
      rw [h1] at q
      dsimp only at q
      cases h2 : lookO o e with
      | none => rw [h2] at q; exact q.no
      | some z =>
        rw [h2] at q
        cases z with
        | none => exact q.no
        | some z =>
          dsimp only at q
          obtain ⟨w, hg, hw⟩ := look_get sh ha h1 ry h2
          rcases hw with ⟨h, _⟩ | ⟨x, y, e1, rfl, r⟩
          · cases h
          · cases e1
            exact ⟨a, y, rfl, hg, q.val (.refl _ _ _) sh y r⟩
  | _ => exact q.no
theorem pr_ixT {g : Gm} : Pr2 g rIxS dIxT := by
  intro W σ ι G H d e x y Q sh rx ry q
  cases rx with
  | str z =>
    cases ry with
    | int i =>
      unfold dIxT at q
      dsimp only at q
      by_cases hl : z.length ≤ 100000
      · rw [if_pos hl] at q
        cases h2 : atI z.cps.toList i with
        | none => rw [h2] at q; exact q.no
        | some c =>
          rw [h2] at q
          exact ⟨z, i, c, rfl, rfl, line_of hl, h2, q.val (.refl _ _ _) sh _ (.str _)⟩
      · rw [if_neg hl] at q; exact q.no
    | _ => exact q.no
  | _ => exact q.no
theorem fe_ixO {g : Gm} {c : Sc} {a b : Expr} {fa fb : SE} {pos : Pos} (ha : FE g c a fa) (hb : FE g c b fb) (hs : PlainIx b := by exact (fun _ _ => rfl)) : FE g c (.Subscript a b pos) (eOp dIx fa fb) :=
  ⟨fun X i W t => two (pe_ix ((ix_list.or ix_tup).or ((ix_dict i.hu1).or ix_str)) (ha.run X i W t) (hb.run X i W t) hs) ((pr_ixS i.K).or (pr_ixD.or pr_ixT))⟩
def cutL {α : Type} (xs : List α) (lo hi : Option Int) : List α := (xs.drop (HT.sIx xs.length 0 lo)).take (HT.sIx xs.length xs.length hi - HT.sIx xs.length 0 lo)
def dSl (d : D) (lo hi : Option Int) : Mm D := fun G => match d with
  | .tup xs => some (.val (.tup (cutL xs lo hi)), G)
  | .str z => if z.length ≤ 100000 then some (.val (.str (cutS z lo hi)), G) else none
  | .kl xs => some (.val (.ref G.length), G ++ [.lst (cutL xs lo hi)])
  | .ref n => match G[n]? with
    | some (.lst xs) => some (.val (.ref G.length), G ++ [.lst (cutL xs lo hi)])
    | _ => none
  | _ => none
abbrev SO := Sg → Mm (Option Int)
def oNone : SO := fun _ G => some (.val none, G)
def oSome (f : SE) : SO := fun gs G => bnd (f gs G) fun d G1 => match d with
  | .int i => some (.val (some i), G1)
  | _ => none
def eSl (fa : SE) (fl fh : SO) : SE := fun gs G => bnd (fa gs G) fun d G1 => bnd (fl gs G1) fun l G2 => bnd (fh gs G2) fun h => dSl d l h
def tO (g : Gm) (W : WX) (f : SO) : TO := fun σ H Q => ∃ ι gs G, SimS g ι H gs σ ∧ SimH g ι G H ∧ Gv g W σ ι H (f gs G) fun o _ _ H' => Q o H'
structure FO (g : Gm) (c : Sc) (e : Option Expr) (f : SO) : Prop where
  run : ∀ X, XIs g c X → ∀ W, L2N.Takes X W → PO X e (tO g W f)
section
variable {g : Gm} {c : Sc} {e : Expr} {lo hi : Option Expr} {fa : SE} {fl fh : SO} {pos p2 : Pos}
theorem po_imp {X : Cx} {e : Option Expr} {t t' : TO} (h : PO X e t) (k : ∀ σ H Q, t' σ H Q → t σ H Q) : PO X e t' := ⟨fun pins s σ H Q I q => h.run pins s σ H Q I (k σ H Q q)⟩
theorem fo_none : FO g c none oNone := ⟨fun X i W t => po_imp po_none fun σ H Q ⟨ι, gs, G, ss, sh, h⟩ => h.val (.refl _ _ _) sh⟩
theorem fo_some (h : FE g c e fa) : FO g c (some e) (oSome fa) := ⟨fun X i W t => po_imp (po_some (h.run X i W t)) fun σ H Q ⟨ι, gs, G, ss, sh, h⟩ => ⟨ι, gs, G, ss, sh, h.bnd.imp fun d ι1 G1 H1 s1 t1 h1 v rv => by
  cases rv with
  | int i => exact ⟨i, rfl, h1.val (.refl _ _ _) t1⟩
  | _ => exact h1.no⟩⟩
theorem RelDs.cutL {ι : List Addr} {H : Hp} {xs : List D} {vs : List V} (r : RelDs g ι H xs vs) (lo hi : Option Int) : RelDs g ι H (FI.cutL xs lo hi) (cutV vs lo hi) := by
  unfold FI.cutL cutV
  rw [← r.length]
  exact (r.drop _).take _
theorem cutL_whole {α : Type} {xs : List α} {lo hi : Option Int} (h : HT.sIx xs.length 0 lo = 0 ∧ HT.sIx xs.length xs.length hi = xs.length) : cutL xs lo hi = xs := by
  unfold cutL
  rw [h.1, h.2]
  simp
theorem fe_slice (ha : FE g c e fa) (hl : FO g c lo fl) (hh : FO g c hi fh) : FE g c (.Subscript e (.Slice lo hi none p2) pos) (eSl fa fl fh) :=
  ⟨fun X i W t => pe_imp (pe_slice (sl_tupA.or (sl_list.or sl_str)) (ha.run X i W t) (hl.run X i W t) (hh.run X i W t)) fun σ H Q ⟨ι, gs, G, ss, sh, h⟩ => ⟨ι, gs, G, ss, sh, h.bnd.imp fun d ι1 G1 H1 s1 t1 h1 v rv =>
    ⟨ι1, gs, G1, ss.mono s1, t1, h1.bnd.imp fun l ι2 G2 H2 s2 t2 h2 => ⟨ι2, gs, G2, (ss.mono s1).mono s2, t2, h2.bnd.imp fun u ι3 G3 H3 s3 t3 h3 => by
      have rv' := (rv.mono s2).mono s3
      rw [i.K]
      cases rv' with
      | @tup xs a vs ha rs =>
        refine .inl ⟨a, vs, rfl, .inl (.inl ha), fun hw => ?_, fun _ p hp => ?_⟩
        · have : cutL xs l u = xs := cutL_whole (by rw [rs.length]; exact hw)
          unfold dSl at h3
          dsimp only at h3
          rw [this] at h3
          exact h3.val (.refl _ _ _) t3 _ (.tup ha rs)
        · exact h3.val (stp_upd_new hp) (t3.new hp) _ (new_tup hp (rs.cutL l u))
      | str z =>
        refine .inr (.inr ⟨z, rfl, ?_⟩)
        unfold dSl at h3
        dsimp only at h3
        by_cases hz : z.length ≤ 100000
        · rw [if_pos hz] at h3; exact ⟨line_of hz, h3.val (.refl _ _ _) t3 _ (.str _)⟩
        · rw [if_neg hz] at h3; exact h3.no
      | @kl xs a vs ha rs =>
        refine .inr (.inl ⟨a, vs, rfl, ha.sq, fun p hp => ?_⟩)
        obtain ⟨st, sm, rd⟩ := new_lst t3 hp (rs.cutL l u)
        exact h3.val st sm _ rd
      | @ref n a ha =>
        unfold dSl at h3
        dsimp only at h3
        cases hm : G3[n]? with
        | none => rw [hm] at h3; exact h3.no
        | some o =>
          rw [hm] at h3
          cases o with
          | lst xs =>
            obtain ⟨vs, hv, rs⟩ := lst_at t3 ha hm
            refine .inr (.inl ⟨a, vs, rfl, .inl (.inl hv), fun p hp => ?_⟩)
            obtain ⟨st, sm, rd⟩ := new_lst t3 hp (rs.cutL l u)
            exact h3.val st sm _ rd
          | _ => exact h3.no
      | _ => exact h3.no⟩⟩⟩⟩
def dRevL : D → Mm D := fun d G => match d with
  | .ref n => match G[n]? with
    | some (.lst xs) => some (.val (.ref G.length), G ++ [.lst xs.reverse])
    | _ => none
  | _ => none
theorem fe_revL {k : Nat} {p1 p2 p3 : Pos} (ha : FE g c e fa) : FE g c (.Subscript e (.Slice none none (some (.UnaryOp .USub (.Constant (.int 1) k p1) p2)) p3) pos) (eUn dRevL fa) :=
  ⟨fun X i W t => pe_imp (pe_revL (ha.run X i W t)) fun σ H Q ⟨ι, gs, G, ss, sh, h⟩ => ⟨ι, gs, G, ss, sh, h.bnd.imp fun d ι1 G1 H1 s1 t1 h1 v rv => by
    cases rv with
    | @ref n a ha =>
      unfold dRevL at h1
      dsimp only at h1
      cases hm : G1[n]? with
      | none => rw [hm] at h1; exact h1.no
      | some o =>
        rw [hm] at h1
        cases o with
        | lst xs =>
          obtain ⟨vs, hv, rs⟩ := lst_at t1 ha hm
          refine ⟨a, vs, rfl, by rw [i.K]; exact .inl (.inl hv), fun p hp => ?_⟩
          obtain ⟨st, sm, rd⟩ := new_lst t1 hp rs.rev
          exact h1.val st sm _ rd
        | _ => exact h1.no
    | _ => exact h1.no⟩⟩
end
def putO (o : O) (e v : D) : Option O := match o with
  | .lst xs => match e with
    | .int i => match ixN xs.length i with
      | some j => some (.lst (xs.set j v))
      | none => none
    | _ => none
  | .dK kvs => match keyD e with
    | some k => if kvs.length < 100000 then some (.dK (setK kvs k v)) else none
    | none => none
  | .dT kvs => match e with
    | .tup xs => match keysD xs with
      | some k => if kvs.length < 100000 then some (.dT (setK kvs k v)) else none
      | none => none
    | _ => none
  | _ => none
def dPut (d e v : D) (G : Hh) : Option Hh := match d with
  | .ref n => match G[n]? with
    | some o => match putO o e v with
      | some o' => some (G.set n o')
      | none => none
    | none => none
  | _ => none
def rPutAny : TSet := fun o i v H Q => rSetL o i v H Q ∨ ∃ a H', o = .ref a ∧ DPut H a i v H' ∧ Q H'
theorem set_any {X : Cx} (hu : X.A.units + 1 < cLine) : PSet X rPutAny := by
  intro pins s σ H o i v ov iv u Q I ro ri rv h
  rcases h with h | ⟨a, H', rfl, g, q⟩
  · exact set_list pins s σ H o i v ov iv u Q I ro ri rv h
  · obtain rfl : ov = Value.ref a := ro
    exact d_setItem hu I g ri rv fun s' I' => ⟨H', I', q⟩
section
variable {g : Gm} {ι : List Addr} {G G' : Hh} {H : Hp}
theorem put_any (sh : SimH g ι G H) {d e w : D} {x y z : V} (rx : RelD g ι H d x) (ry : RelD g ι H e y) (rz : RelD g ι H w z) (q : dPut d e w G = some G') {Q : Hp → Prop} (k : ∀ H', Stp g ι H ι H' → SimH g ι G' H' → Q H') : rPutAny x y z H Q := by
  cases rx with
  | @ref n a ha =>
    unfold dPut at q
    dsimp only at q
    cases hm : G[n]? with
    | none => rw [hm] at q; cases q
    | some o =>
      rw [hm] at q
      dsimp only at q
      cases hp : putO o e w with
      | none => rw [hp] at q; cases q
      | some o' =>
        rw [hp] at q
        cases q
        cases o with
        | lst xs =>
          obtain ⟨vs, hv, rs⟩ := lst_at sh ha hm
          cases ry with
          | int i =>
            unfold putO at hp
            dsimp only at hp
            cases hj : ixN xs.length i with
            | none => rw [hj] at hp; cases hp
            | some j =>
              rw [hj] at hp
              cases hp
              obtain ⟨sm, st⟩ := sh.write (o := .lst (xs.set j w)) ha hv ⟨(fun _ z => by cases z), (fun _ _ z => by cases z), (fun _ z => by cases z)⟩ (.lst (rs.set rz j))
              exact .inl ⟨a, vs, i, j, rfl, rfl, hv, by rw [← rs.length]; exact hj, k _ st sm⟩
          | _ => cases hp
        | dK kvs =>
          obtain ⟨vs, hv, rs⟩ := dk_at sh ha hm
          have key : ∀ k, keyD e = some k → y = kV k := by
            intro k hk
            cases ry <;> cases hk <;> rfl
          unfold putO at hp
          dsimp only at hp
          cases hk : keyD e with
          | none => rw [hk] at hp; cases hp
          | some kk =>
            rw [hk] at hp
            dsimp only at hp
            by_cases hl : kvs.length < 100000
            · rw [if_pos hl] at hp
              cases hp
              have ey := key kk hk
              subst ey
              obtain ⟨sm, st⟩ := sh.write (o := .dK (setK kvs kk w)) ha hv ⟨(fun _ z => by cases z), (fun _ _ z => by cases z), (fun _ z => by cases z)⟩ (.dK (rs.set kk rz))
              exact .inr ⟨a, _, rfl, DPut.k hv (by rw [← rs.length]; exact line_lt hl), k _ st sm⟩
            · rw [if_neg hl] at hp; cases hp
        | dT kvs =>
          obtain ⟨vs, hv, rs⟩ := dt_at sh ha hm
          cases ry with
          | @tup xs b ws hb rws =>
            unfold putO at hp
            dsimp only at hp
            cases hk : keysD xs with
            | none => rw [hk] at hp; cases hp
            | some kk =>
              rw [hk] at hp
              dsimp only at hp
              by_cases hl : kvs.length < 100000
              · rw [if_pos hl] at hp
                cases hp
                have ey := rel_keys rws hk
                subst ey
                obtain ⟨sm, st⟩ := sh.write (o := .dT (setK kvs kk w)) ha hv ⟨(fun _ z => by cases z), (fun _ _ z => by cases z), (fun _ z => by cases z)⟩ (.dT (rs.set kk rz))
                exact .inr ⟨a, _, rfl, DPut.t hv hb (by rw [← rs.length]; exact line_lt hl), k _ st sm⟩
              · rw [if_neg hl] at hp; cases hp
          | _ => cases hp
        | _ => cases hp
  | _ => cases q
end
def gSb (fo fi : SE) : GT := fun d gs G => match fo gs G with
  | some (.val x, G1) => match fi gs G1 with
    | some (.val y, G2) => match dPut x y d G2 with
      | some G3 => some (gs, G3)
      | none => none
    | _ => none
  | _ => none
section
variable {g : Gm} {c : Sc} {o i e : Expr} {fo fi fe : SE} {pos tpos : Pos}
theorem fg_sub (ho : FE g c o fo) (hi : FE g c i fi)
    (ha : ∀ env v, assign (.Subscript o i pos) env v = (do
      let ov ← holding [v] (eval o env)
      let iv ← holding [v, ov] (eval i env)
      standAt pos
      holding [v, ov, iv] (setItem ov iv v)
      release [v, ov, iv] []) := by intro _ _; rfl) : FG g c (.Subscript o i pos) [] (gSb fo fi) :=
  ⟨fun X j => pg_imp (pg_sub (ho.run X j _ takesN0) (hi.run X j _ takesN0) (set_any j.hu1) (ha _)) fun v σ H Q ⟨ι, gs, G, d, gs', G', ss, sh, rv, q, k⟩ => by
    unfold gSb at q
    cases e1 : fo gs G with
    | none => rw [e1] at q; cases q
    | some p1 =>
      obtain ⟨r1, G1⟩ := p1
      rw [e1] at q
      cases r1 with
      | exc _ => cases q
      | val x =>
        dsimp only at q
        refine ⟨ι, gs, G, ss, sh, _, _, e1, fun ι1 H1 s1 t1 ov rov => ?_⟩
        cases e2 : fi gs G1 with
        | none => rw [e2] at q; cases q
        | some p2 =>
          obtain ⟨r2, G2⟩ := p2
          rw [e2] at q
          cases r2 with
          | exc _ => cases q
          | val y =>
            dsimp only at q
            refine ⟨ι1, gs, G1, ss.mono s1, t1, _, _, e2, fun ι2 H2 s2 t2 iv riv => ?_⟩
            cases e3 : dPut x y d G2 with
            | none => rw [e3] at q; cases q
            | some G3 =>
              rw [e3] at q
              cases q
              refine put_any t2 (rov.mono s2) riv ((rv.mono s1).mono s2) e3 fun H3 st sm => ?_
              exact k ι2 H3 σ ((s1.trans s2).trans st) sm (((ss.mono s1).mono s2).mono st) .refl⟩
def dGetR (d e : D) (G : Hh) : Option D := match d with
  | .ref n => match G[n]? with
    | some (.lst xs) => match e with
      | .int i => atI xs i
      | _ => none
    | some o => match lookO o e with
      | some z => z
      | none => none
    | none => none
  | _ => none
def sAugS (F : Int → Int → Int) (fo fi fe : SE) : SS := fun gs G => onE (fo gs G) gs fun x G1 => onE (fi gs G1) gs fun y G2 => match dGetR x y G2 with
  | some z => onE (fe gs G2) gs fun w G4 => match z, w with
    | .int a, .int b => match dPut x y (.int (F a b)) G4 with
      | some G5 => some (.nx, gs, G5)
      | none => none
    | _, _ => none
  | none => none
def rGetAny (K : PySem.W.Frag) : R2 := fun x y H Q => rIxL K x y H Q ∨ rIxDk x y H Q
theorem get_any {X : Cx} (hu : X.A.units + 1 < cLine) : PGet X (rGetAny X.K) := by
  intro pins s σ H o i ov iv Q I ro ri h
  rcases h with ⟨p, xs, k, v, rfl, rfl, hq, he, q⟩ | ⟨a, z, rfl, g, q⟩
  · cases ro
    obtain ⟨t, rfl⟩ := ri
    obtain ⟨its, r, pl, hz⟩ := I.list hq
    obtain ⟨j, h1, h2, h3, h4, h5⟩ := atI_get he
    obtain ⟨w, ew, rw'⟩ := r.get h2
    have hl := r.length
    have hn := line63
    have fin : EP X pins σ Q w s := ⟨v, H, I, rw', q⟩
    by_cases h0 : 0 ≤ k
    · have hj : k.toNat = j := by
        rw [seqIndex_of h0 h5] at h1
        exact Option.some.inj h1
      exact wpAny_getItem_list pl.isList h0 (by omega) (by rw [hj]; simpa using ew) fin
    · have hj : (k + (its.toArray.size : Int)).toNat = j := by
        rw [seqIndex_neg (by omega) h4] at h1
        rw [List.size_toArray, ← hl]
        exact Option.some.inj h1
      exact wpAny_getItem_list_neg pl.isList (by omega) (by rw [List.size_toArray] <;> omega) (by omega) (by rw [hj]; simpa using ew) fin
  · obtain rfl : ov = Value.ref a := ro
    exact d_getItem hu I g ri fun w' s3 I3 rw' => ⟨z, H, I3, rw', q⟩
theorem gt_any {g : Gm} {ι : List Addr} {G : Hh} {H : Hp} (sh : SimH g ι G H) {d e z : D} {x y : V} (rx : RelD g ι H d x) (ry : RelD g ι H e y) (q : dGetR d e G = some z) {Q : VK} (k : ∀ v, RelD g ι H z v → Q v H) : rGetAny g.K x y H Q := by
  cases rx with
  | @ref n a ha =>
    unfold dGetR at q
    dsimp only at q
    cases hm : G[n]? with
    | none => rw [hm] at q; cases q
    | some o =>
      rw [hm] at q
      have key : ∀ z', lookO o e = some (some z') → z' = z → rGetAny g.K (.ref a) y H Q := fun z' h2 ez => by
        subst ez
        obtain ⟨w, hg, hw⟩ := look_get sh ha hm ry h2
        rcases hw with ⟨h, _⟩ | ⟨x, y', e1, rfl, r⟩
        · cases h
        · cases e1
          exact .inr ⟨a, y', rfl, hg, k y' r⟩
      cases o with
      | lst xs =>
        cases ry with
        | int i =>
          obtain ⟨vs, hv, rs⟩ := lst_at sh ha hm
          obtain ⟨v, hv2, rv⟩ := rs.atI q
          exact .inl ⟨a, vs, i, v, rfl, rfl, .inl (.inl hv), hv2, k v rv⟩
        | _ => cases q
      | dK kvs =>
        dsimp only at q
        cases h2 : lookO (.dK kvs) e with
        | none => rw [h2] at q; cases q
        | some z' => rw [h2] at q; dsimp only at q; subst q; exact key _ h2 rfl
      | dT kvs =>
        dsimp only at q
        cases h2 : lookO (.dT kvs) e with
        | none => rw [h2] at q; cases q
        | some z' => rw [h2] at q; dsimp only at q; subst q; exact key _ h2 rfl
      | dF kvs =>
        first
          | (dsimp only at q
             cases h2 : lookO (.dF kvs) e with
             | none => rw [h2] at q; cases q
             | some z' => rw [h2] at q; dsimp only at q; subst q; exact key _ h2 rfl)
          | (dsimp only at q
             cases q)
      | ins c fs =>
        dsimp only at q
        cases q
  | _ => cases q
theorem fs_augS {op : Operator} {F : Int → Int → Int} (hp : ∀ X, PIp X op (ipI F)) (ho : FE g c o fo) (hi : FE g c i fi) (he : FE g c e fe)
    (ha : ∀ ov iv new, augStore i ov iv new = (do holding [new, ov, iv] (setItem ov iv new); release [new, ov, iv] []; pure .next) := by intros; rfl) : FS g c (.AugAssign (.Subscript o i tpos) op e pos) (sAugS F fo fi fe) :=
  ⟨fun X j W tk => ps_imp (ps_augS (ho.run X j W tk) (hi.run X j W tk) (get_any j.hu1) (he.run X j W tk) (hp X) (set_any j.hu1) ha) fun D0 σ H ⟨ι, gs, G, ss, sh, q⟩ => ⟨ι, gs, G, ss, sh, (q.onE ss).imp fun x ι1 G1 H1 s1 t1 h1 ov rov =>
    ⟨ι1, gs, G1, ss.mono s1, t1, (h1.onE (ss.mono s1)).imp fun y ι2 G2 H2 s2 t2 h2 iv riv => by
      have ss2 := (ss.mono s1).mono s2
      cases e3 : dGetR x y G2 with
      | none => rw [e3] at h2; exact h2.no
      | some z =>
        rw [e3] at h2
        dsimp only at h2
        rw [j.K]
        refine gt_any t2 (rov.mono s2) riv e3 fun v rz => ⟨ι2, gs, G2, ss2, t2, (h2.onE ss2).imp fun w ι4 G4 H4 s4 t4 h5 wv rw' => ?_⟩
        have rz' := rz.mono s4
        cases rz with
        | int a =>
          cases rw' with
          | int b =>
            dsimp only at h5
            cases e5 : dPut x y (.int (F a b)) G4 with
            | none => rw [e5] at h5; exact h5.no
            | some G5 =>
              rw [e5] at h5
              exact ⟨a, b, rfl, rfl, put_any t4 ((rov.mono s2).mono s4) (riv.mono s4) (.int _) e5 fun H6 st sm => h5.at st sm ((ss2.mono s4).mono st)⟩
          | _ => exact h5.no
        | _ => exact h5.no⟩⟩⟩
def sAugN (k : Nat) (F : Int → Int → Int) (fe : SE) : SS := fun gs G => match gs[k]? with
  | some (some (.int a)) => onE (fe gs G) gs fun w G1 => match w with
    | .int b => some (.nx, gs.set k (some (.int (F a b))), G1)
    | _ => none
  | _ => none
theorem fs_augN (k : Nat) {x : Str} {op : Operator} {F : Int → Int → Int} (hp : ∀ X, PIp X op (ipI F)) (he : FE g c e fe) (hi : c.N[k]? = some x := by rfl) (hx : Loc c.sc x := by first | exact Or.inl rfl | exact Or.inr rfl) (how : c.ow x = true := by rfl) (hnx : NoHx g k := by first | exact NoHx.none rfl | exact NoHx.some rfl (by decide)) : FS g c (.AugAssign (.Name x tpos) op e pos) (sAugN k F fe) :=
  ⟨fun X j W tk => by
    have hl : X.env.scope = c.sc := j.sc
    refine ps_imp (ps_aug (i := k) (by rw [j.N]; exact j.nd) (by rw [j.N]; exact hi) (by rw [hl]; exact hx) (he.run X j W tk) (hp X) (j.fn x how)) fun D0 σ H ⟨ι, gs, G, ss, sh, q⟩ => ?_
    unfold sAugN at q
    split at q
    · rename_i a e
      obtain ⟨v, h1, h2⟩ := ss.at_ k _ e
      cases h2
      refine ⟨_, h1, ι, gs, G, ss, sh, (q.onE ss).imp fun w ι1 G1 H1 s1 t1 h1 wv rw' => ?_⟩
      cases rw' with
      | int b => exact ⟨a, b, rfl, rfl, h1.at (.refl _ _ _) t1 ((ss.mono s1).set (.int _) k hnx)⟩
      | _ => exact h1.no
    · exact q.no⟩
end
end FI
set_option maxRecDepth 100000
set_option maxHeartbeats 1000000
namespace L2
open PySem PySem.Spec PyProof.Rows
theorem meets_enumerate_new1 {v : Value} {o : Obj} {H : Heap → Prop} (B : Begins v o H) :
    Meets (Builtin.«enumerate.__new__» ⟨[.type "enumerate", v], []⟩) (fun _ R s => H s.heap ∧
      R (.ok (.ret (.ref (s.heap.push o).objs.size))) { s with heap := (s.heap.push o).push { cls := .type "enumerate", data := .fields #[.none, .bool false, .ref s.heap.objs.size, rawInt 0, .none, .none] } }) :=
  .of_wp fun prog w A R s h => by
    obtain ⟨hp, g, d, tk, os⟩ := s; obtain ⟨h1, h⟩ := h
    have hsub := sub_enumerate
    have q1 : ∀ {A' : Around} {E : Value → Shared → Prop} {Q : Value → Shared → Prop}, Q (.ref hp.objs.size) ⟨hp.push o, g, d, tk, os⟩ → wpAny (model prog w) A' (pyIter v) Q E ⟨hp, g, d, tk, os⟩ :=
      fun q => B.iter prog w _ _ ⟨hp, g, d, tk, os⟩ _ h1 q
    wp_walk using q1
    refine wpAny_stack_any fun st => wpAny_pure ?_
    split
    · rename_i c _ _ _ _ _
      cases (c == Value.type "enumerate")
      · wp_walk using q1
        exact ⟨_, rfl, h⟩
      · wp_walk using q1
        exact ⟨_, rfl, h⟩
    · wp_walk using q1
      exact ⟨_, rfl, h⟩
theorem call_enumerate_tup {prog : Program} {w : World} {A : Around} {E : Value → Shared → Prop} {s : Shared} {t : Addr} {items : Array Value} {Q : Value → Shared → Prop} (ht : s.heap.IsTuple t items)
    (h : ∀ h', IsEnum h' (s.heap.objs.size + 1) s.heap.objs.size 0 .none → h'.IsTupleIter s.heap.objs.size t 0 → h'.objs.size = s.heap.objs.size + 2 →
      (∀ b o, s.heap.get? b = some o → h'.get? b = some o) → Q (.ref (s.heap.objs.size + 1)) { s with heap := h' }) :
    wpAny (model prog w) A (call (.type "enumerate") [.ref t]) Q E s := by
  refine callType_new F.called_enumerate (by decide) (F.typeCall_enumerate_1 _) (F.newCall_enumerate_1 _) (fun obj => F.args_object_init_2 obj _) F.entry_enumerate_new
    (meets_enumerate_new1 (begins_tuple t items)) ⟨ht, ?_⟩
  have hz : (s.heap.push { cls := .type "tuple_iterator", data := .fields #[.ref t, .int 0 0] }).objs.size = s.heap.objs.size + 1 := Heap.size_push ..
  show _ ∧ _
  rw [hz]
  have he : IsEnum ((s.heap.push { cls := .type "tuple_iterator", data := .fields #[.ref t, .int 0 0] }).push
      { cls := .type "enumerate", data := .fields #[.none, .bool false, .ref s.heap.objs.size, rawInt 0, .none, .none] }) (s.heap.objs.size + 1) s.heap.objs.size 0 .none := by
    have := Heap.get?_push_size (s.heap.push { cls := .type "tuple_iterator", data := .fields #[.ref t, .int 0 0] })
      (o := { cls := .type "enumerate", data := .fields #[.none, .bool false, .ref s.heap.objs.size, rawInt 0, .none, .none] }) rfl
    rw [hz] at this; exact this
  exact ⟨⟨_, he, rfl⟩, h _ he ⟨_, Heap.get?_push_of_some _ (Heap.get?_push_size _ rfl), rfl, rfl⟩ (by rw [Heap.size_push, hz]) fun b o x => Heap.get?_push_of_some _ (Heap.get?_push_of_some _ x)⟩
def IteT (K : PySem.W.Frag) (a : Addr) (k : Int) : It :=
  ⟨fun i H => ∃ (xs : List V) (x : V), SqT K H a xs ∧ xs[i]? = some x, fun i H v H' => ∃ T x, v = .ref T ∧ H T = none ∧ H' = upd H T (.tup [.int (k + (i : Nat)), x]) ∧ ∀ xs, SqT K H a xs → xs[i]? = some x, fun i H => ∃ xs : List V, SqT K H a xs ∧ xs.length = i⟩
theorem turn_enumT {P : Program} {w : World} {K : PySem.W.Frag} {elts : List Expr} {kk : Nat} {tpos : Pos} (a e it : Addr) (k : Int) :
    Turn P w K (.Tuple elts kk tpos) (IteT K a k) [e, it] e (fun i h => (∃ old, IsEnum h e it (k + ((i : Nat) : Int)) old) ∧ h.IsTupleIter it a i ∧ e ≠ it ∧ a ≠ it ∧ a ≠ e) where
  mem := by simp
  obj := fun i h st b hb => by
    obtain ⟨⟨old, he⟩, ⟨o, ho, hc, hd⟩, _⟩ := st
    have e' : b = e ∨ b = it := by simpa using hb
    rcases e' with z | z
    · rw [z]; exact ⟨_, he, fun v q => nomatch q⟩
    · rw [z]; exact ⟨o, ho, fun v q => by rw [hd] at q; cases q⟩
  keep := fun i h h' st k => let ⟨⟨old, he⟩, hi, hne⟩ := st; ⟨⟨old, k e (by simp) _ he⟩, hi.at fun o q => k it (by simp) o q, hne⟩
  item := by
    intro X hP hw hK hc i pins s σ H E I hf st hg
    subst hP hw hK
    obtain ⟨⟨old, he⟩, hit, hne, ha1, ha2⟩ := st
    obtain ⟨xs, x, hq, hx⟩ := hg
    obtain ⟨its, rv, p, hz⟩ := I.tuple hq
    obtain ⟨u, hu, ru⟩ := rv.get hx
    have hel : e < s.heap.objs.size := Heap.lt_size he
    have hil : it < s.heap.objs.size := by obtain ⟨_, q, _⟩ := hit; exact Heap.lt_size q
    have pt : s.heap.IsTuple a its.toArray := p
    have hlt : i < its.toArray.size := by
      have := (List.getElem?_eq_some_iff.mp hu).1
      simpa using this
    refine wpAny_pyNext_enum_itemC (Draws.tuple (A := X.A.in1) (show X.A.in1.handled = none from I.ok.hd hc) it a ha1 its.toArray) he ⟨hit, pt⟩ hlt hne (by simp [hne, Ne.symm ha2]) fun y h' tk hy ho hst hT hsz hk => ?_
    have ey : y = u := by
      have h1 : its.toArray[i]? = some u := by simpa using hu
      rw [h1] at hy
      exact (Option.some.inj hy).symm
    subst ey
    refine ⟨_, rfl, wpAny_letOwnedTupleGo_enum (s := { s with heap := h', toks := tk + 1 }) ho fun h'' he' sb => ?_⟩
    have hT2 : h''.get? s.heap.objs.size = some { cls := .type "tuple", data := .seq #[.int (k + (i : Int)) tk, y] } := (sb.2 _ (Nat.ne_of_gt hel)).trans hT
    have new : ObjOk X.prog X.w (upd H s.heap.objs.size (.tup [.int (k + (i : Nat)), x])) h'' s.heap.objs.size (.tup [.int (k + (i : Nat)), x]) :=
      ⟨by show 2 ≤ sizeLine; decide, [.int (k + (i : Int)) tk, y], .cons ⟨_, rfl⟩ (.cons ru .nil), ⟨_, hT2, rfl, _, rfl⟩⟩
    have I1 : Inv X pins σ (upd H s.heap.objs.size (.tup [.int (k + (i : Nat)), x])) { s with heap := h'', toks := tk + 1 } :=
      I.turnedNew (ch := [e, it]) (fun b ob hb q => (sb.2 b (fun z => hb (by simp [z]))).trans (hk b ob (fun z => hb (by simp [z])) (fun z => hb (by simp [z])) q)) hf (Nat.le_refl _) new
    refine ⟨.ref s.heap.objs.size, _, I1, rfl, ⟨_, x, rfl, I.hok.fresh (Nat.le_refl _), rfl, fun ys hy => by rw [I.tuple_inj hy hq]; exact hx⟩, ⟨⟨y, ?_⟩, hst.1.at fun o q => (sb.2 it (Ne.symm hne)).trans q, hne, ha1, ha2⟩, fun b hb => ?_⟩
    · have e1 : k + ((i + 1 : Nat) : Int) = k + (i : Int) + 1 := by omega
      rw [e1]; exact he'
    · have hb' : b < s.heap.objs.size := by
        have e' : b = e ∨ b = it := by simpa using hb
        rcases e' with z | z
        · rw [z]; exact hel
        · rw [z]; exact hil
      rw [upd_ne (Nat.ne_of_lt hb')]
      exact (hf b hb).1
  done := by
    intro X hP hw hK hc i pins s σ H E I hf st hg
    subst hP hw hK
    obtain ⟨⟨old, he⟩, hit, hne, ha1, ha2⟩ := st
    obtain ⟨xs, hq, hx⟩ := hg
    obtain ⟨its, rv, p, hz⟩ := I.tuple hq
    obtain ⟨f0, f1, f2, f3, f4, f5⟩ := hf it (by simp)
    have hl := rv.length
    have pt : s.heap.IsTuple a its.toArray := p
    have hi : i = its.toArray.size := by simp; omega
    subst hi
    exact wpAny_pyNext_enum_endD (Draws.tuple (A := X.A.in1) (show X.A.in1.handled = none from I.ok.hd hc) it a ha1 its.toArray) he ⟨hit, pt⟩ fun h' eb => ⟨rfl, I.turned (t' := s.toks) (fun b o hb q => eb b o hb q) f0 f1 f3 f4 f5⟩
  self := fun A i s Q E st h => let ⟨⟨_, he⟩, _⟩ := st; wpAny_pyIter_enum he h
def iEnumT (K : PySem.W.Frag) (ta : TA) : TI := fun σ H R => ta σ H fun vs H1 => ∃ a, vs = [.ref a] ∧ ((∃ xs, SqL K H1 a xs ∧ R (Ite K a) H1) ∨ ∃ xs, SqT K H1 a xs ∧ R (IteT K a 0) H1)
theorem pi_enumT {X : Cx} {e : Expr} {ta : TA} {p pos tpos : Pos} {elts : List Expr} {kk : Nat} (hg : Gl X "enumerate") (hm : X.mg "enumerate" = none) (ha : PA X [e] ta) (hs : starEach [e] X.env = [(false, eval e X.env)] := by rfl) :
    PI X (.Tuple elts kk tpos) (.Call (.Name "enumerate" p) [e] [] pos) (iEnumT X.K ta) := by
  refine ⟨fun pins s σ H R I h => ?_⟩
  refine Call_ (ld_blt I hg hm boot_enumerate (PyProof.Rows.callWith_type1 (thn (ha.run pos pins s σ H _ I h) fun us s1 ⟨vs, H1, I1, r1, q1⟩ => ?_) hs rfl))
  obtain ⟨a, ex, q1⟩ := q1
  subst ex
  cases r1 with
  | cons r rr =>
    cases rr
    cases r
    have fresh : ∀ b, b ∈ [s1.heap.objs.size + 1, s1.heap.objs.size] → FpOk X pins H1 b := fun b hb => by
      have e' : b = s1.heap.objs.size + 1 ∨ b = s1.heap.objs.size := by simpa using hb
      have hle : s1.heap.objs.size ≤ b := by
        rcases e' with z | z
        · rw [z]; exact Nat.le_add_right _ _
        · rw [z]; exact Nat.le_refl _
      exact I1.fpOk hle (I1.hok.fresh hle)
    rcases q1 with ⟨xs, hq, q⟩ | ⟨xs, hq, q⟩
    · obtain ⟨its, rv, p', hz⟩ := I1.list hq
      refine call_enumerate_list p'.isList fun h' he hit hsz hk => wpAny_pyIter_enum he ?_
      have I2 : Inv X pins σ H1 { s1 with heap := h' } := I1.kept (t' := s1.toks) hk
      exact ⟨s1.heap.objs.size + 1, [s1.heap.objs.size + 1, s1.heap.objs.size], _, _, H1, rfl, I2, turn_enum a (s1.heap.objs.size + 1) s1.heap.objs.size, ⟨⟨.none, he⟩, hit, Nat.succ_ne_self _⟩, fresh, q⟩
    · obtain ⟨its, rv, p', hz⟩ := I1.tuple hq
      obtain ⟨oa, hoa, _⟩ := id p'
      have hlt : a < s1.heap.objs.size := Heap.lt_size hoa
      refine call_enumerate_tup (show s1.heap.IsTuple a its.toArray from p') fun h' he hit hsz hk => wpAny_pyIter_enum he ?_
      have I2 : Inv X pins σ H1 { s1 with heap := h' } := I1.kept (t' := s1.toks) hk
      exact ⟨s1.heap.objs.size + 1, [s1.heap.objs.size + 1, s1.heap.objs.size], _, _, H1, rfl, I2, turn_enumT a (s1.heap.objs.size + 1) s1.heap.objs.size 0, ⟨⟨.none, by simpa using he⟩, hit, Nat.succ_ne_self _, Nat.ne_of_lt hlt, Nat.ne_of_lt (Nat.lt_succ_of_lt hlt)⟩, fresh, q⟩
end L2
set_option maxRecDepth 100000
set_option maxHeartbeats 1000000
namespace L2
open PySem PySem.Spec PyProof.Rows
def iSeq (K : PySem.W.Frag) (tl : TE) : TI := fun σ H R => tl σ H fun x H1 => ∃ a, x = .ref a ∧ (((∃ xs, SqL K H1 a xs) ∧ R (Itl K a) H1) ∨ ((∃ xs, SqT K H1 a xs) ∧ R (Itt K a) H1))
theorem pi_seq {X : Cx} {tg l : Expr} {tl : TE} (hl : PE X l tl) : PI X tg l (iSeq X.K tl) := by
  refine ⟨fun pins s σ H R I h => ?_⟩
  refine thn (hl.run pins s σ H _ I h) fun v s1 ⟨x, H1, I1, r1, q1⟩ => ?_
  obtain ⟨a, e, q⟩ := q1
  subst e
  cases r1
  rcases q with ⟨⟨xs, hq⟩, q⟩ | ⟨⟨xs, hq⟩, q⟩
  · obtain ⟨its, rv, p, hz⟩ := I1.list hq
    refine wpAny_pyIter_list p.isList ?_
    refine ⟨s1.heap.objs.size, [s1.heap.objs.size], _, _, H1, rfl, I1.kept (t' := s1.toks) fun b o e => Heap.get?_push_of_some _ e, turn_list a _, ⟨_, Heap.get?_push_size _ rfl, rfl, rfl⟩, fun b hb => ?_, q⟩
    have e : b = s1.heap.objs.size := by simpa using hb
    subst e
    exact I1.fpOk (Nat.le_refl _) (I1.hok.fresh (Nat.le_refl _))
  · obtain ⟨its, rv, p, hz⟩ := I1.tuple hq
    refine wpAny_pyIter_tuple (show s1.heap.IsTuple a its.toArray from p) ?_
    refine ⟨s1.heap.objs.size, [s1.heap.objs.size], _, _, H1, rfl, I1.kept (t' := s1.toks) fun b o e => Heap.get?_push_of_some _ e, turn_tuple a _, ⟨_, Heap.get?_push_size _ rfl, rfl, rfl⟩, fun b hb => ?_, q⟩
    have e : b = s1.heap.objs.size := by simpa using hb
    subst e
    exact I1.fpOk (Nat.le_refl _) (I1.hok.fresh (Nat.le_refl _))
end L2
namespace FI
open PySem L2 PySem.Spec PyProof.Rows
def stays (n : Nat) (xs : List D) : Hh → Prop := fun G => G[n]? = some (.lst xs)
def anyH : Hh → Prop := fun _ => True
def seqOf (G : Hh) (d : D) : Option (List D × (Hh → Prop)) := match d with
  | .tup xs => some (xs, anyH)
  | .kt xs => some (xs, anyH)
  | .kl xs => some (xs, anyH)
  | .ref n => match G[n]? with
    | some (.lst xs) => some (xs, stays n xs)
    | _ => none
  | _ => none
def wSeq (fe : SE) : SW := fun gs G => bnd (fe gs G) fun d G1 => match seqOf G1 d with
  | some p => some (.val p, G1)
  | none => none
section
variable {g : Gm} {ι : List Addr} {G : Hh} {H : Hp}
theorem wk_l {a : Addr} {xs : List D} {gd : Hh → Prop} (h : ∀ ι' H' G', Stp g ι H ι' H' → SimH g ι' G' H' → gd G' → ∃ vs, SqL g.K H' a vs ∧ RelDs g ι' H' xs vs) : WkOk g (Itl g.K a) xs gd ι H := fun ι' H' G' i st sm gg hi => by
  obtain ⟨vs, hs, rs⟩ := h ι' H' G' st sm gg
  refine ⟨fun d hd => ?_, fun e => ⟨vs, hs, by rw [← rs.length]; omega⟩⟩
  obtain ⟨v, hv, rv⟩ := rs.get hd
  refine ⟨⟨vs, v, hs, hv⟩, fun x H2 y => ?_⟩
  obtain ⟨rfl, y⟩ := y
  have e := y vs hs
  rw [hv] at e
  cases e
  exact ⟨.refl _ _ _, sm, rv⟩
theorem wk_t {a : Addr} {xs : List D} {gd : Hh → Prop} (h : ∀ ι' H' G', Stp g ι H ι' H' → SimH g ι' G' H' → gd G' → ∃ vs, SqT g.K H' a vs ∧ RelDs g ι' H' xs vs) : WkOk g (Itt g.K a) xs gd ι H := fun ι' H' G' i st sm gg hi => by
  obtain ⟨vs, hs, rs⟩ := h ι' H' G' st sm gg
  refine ⟨fun d hd => ?_, fun e => ⟨vs, hs, by rw [← rs.length]; omega⟩⟩
  obtain ⟨v, hv, rv⟩ := rs.get hd
  refine ⟨⟨vs, v, hs, hv⟩, fun x H2 y => ?_⟩
  obtain ⟨rfl, y⟩ := y
  have e := y vs hs
  rw [hv] at e
  cases e
  exact ⟨.refl _ _ _, sm, rv⟩
theorem seq_at (sh : SimH g ι G H) {d : D} {v : V} {xs : List D} {gd : Hh → Prop} (r : RelD g ι H d v) (e : seqOf G d = some (xs, gd)) : ∃ a, v = .ref a ∧
    ((∀ ι' H' G', Stp g ι H ι' H' → SimH g ι' G' H' → gd G' → ∃ vs, SqL g.K H' a vs ∧ RelDs g ι' H' xs vs) ∧ (∃ vs, SqL g.K H a vs ∧ RelDs g ι H xs vs) ∨
     (∀ ι' H' G', Stp g ι H ι' H' → SimH g ι' G' H' → gd G' → ∃ vs, SqT g.K H' a vs ∧ RelDs g ι' H' xs vs) ∧ (∃ vs, SqT g.K H a vs ∧ RelDs g ι H xs vs)) := by
  cases r with
  | @tup ys a vs ha rs => cases e; exact ⟨a, rfl, .inr ⟨fun ι' H' G' st _ _ => ⟨vs, .inl (.inl (st.tup _ _ ha)), rs.mono st⟩, vs, .inl (.inl ha), rs⟩⟩
  | @kt ys a vs ha rs => cases e; exact ⟨a, rfl, .inr ⟨fun ι' H' G' st _ _ => ⟨vs, (st.sqk ha).sq, rs.mono st⟩, vs, ha.sq, rs⟩⟩
  | @kl ys a vs ha rs => cases e; exact ⟨a, rfl, .inl ⟨fun ι' H' G' st _ _ => ⟨vs, (st.sqf ha).sq, rs.mono st⟩, vs, ha.sq, rs⟩⟩
  | @ref n a ha =>
    unfold seqOf at e
    dsimp only at e
    cases hm : G[n]? with
    | none => rw [hm] at e; cases e
    | some o =>
      rw [hm] at e
      cases o with
      | lst ys =>
        cases e
        obtain ⟨vs, hv, rv⟩ := lst_at sh ha hm
        exact ⟨a, rfl, .inl ⟨fun ι' H' G' st sm gg => by
          obtain ⟨vs, hv, rv⟩ := lst_at sm (st.at ha) gg
          exact ⟨vs, .inl (.inl hv), rv⟩, vs, .inl (.inl hv), rv⟩⟩
      | _ => cases e
  | _ => cases e
end
section
variable {g : Gm} {c : Sc} {tg e e2 : Expr} {fe : SE} {fa : SA} {pos p tpos : Pos}
theorem fk_seq (he : FE g c e fe) : FK g c tg e (wSeq fe) := ⟨fun X i W t => pi_imp (pi_seq (he.run X i W t)) fun σ H R ⟨ι, gs, G, ss, sh, h⟩ => ⟨ι, gs, G, ss, sh, h.bnd.imp fun d ι1 G1 H1 s1 t1 h1 v rv => by
  cases e : seqOf G1 d with
  | none => rw [e] at h1; exact h1.no
  | some q =>
    obtain ⟨xs, gd⟩ := q
    rw [e] at h1
    obtain ⟨a, rfl, hh⟩ := seq_at t1 rv e
    have k := h1.val (.refl _ _ _) t1
    rw [i.K]
    rcases hh with ⟨h2, vs, h3, h4⟩ | ⟨h2, vs, h3, h4⟩
    · exact ⟨a, rfl, .inl ⟨⟨vs, h3⟩, k _ (wk_l h2)⟩⟩
    · exact ⟨a, rfl, .inr ⟨⟨vs, h3⟩, k _ (wk_t h2)⟩⟩⟩⟩
def rngD (lo : Int) (n : Nat) : List D := (List.range n).map fun i : Nat => D.int (lo + (i : Int))
theorem rngD_length (lo : Int) (n : Nat) : (rngD lo n).length = n := by simp [rngD]
theorem wk_r {ι : List Addr} {H : Hp} (lo : Int) (n : Nat) : WkOk g (Itr lo n) (rngD lo n) anyH ι H := fun ι' H' G' i st sm gg hi => by
  refine ⟨fun d hd => ?_, fun e => ?_⟩
  · have hlt : i < n := by
      have := (List.getElem?_eq_some_iff.mp hd).1
      rwa [rngD_length] at this
    refine ⟨hlt, fun x H2 y => ?_⟩
    obtain ⟨rfl, rfl⟩ := y
    have e : d = .int (lo + (i : Int)) := by
      unfold rngD at hd
      rw [List.getElem?_map, List.getElem?_range hlt] at hd
      exact (Option.some.inj hd).symm
    subst e
    exact ⟨.refl _ _ _, sm, .int _⟩
  · rw [rngD_length] at e
    show n ≤ i
    omega
def okR (i : Int) : Bool := decide (-(2 ^ 62) ≤ i ∧ i < 2 ^ 62)
def wRng1 (fa : SA) : SW := fun gs G => bnd (fa gs G) fun ds G1 => match ds with
  | [.int j] => if okR j = true then some (.val (rngD 0 j.toNat, anyH), G1) else none
  | _ => none
def wRng2 (fa : SA) : SW := fun gs G => bnd (fa gs G) fun ds G1 => match ds with
  | [.int i, .int j] => if okR i = true ∧ okR j = true then some (.val (rngD i (j - i).toNat, anyH), G1) else none
  | _ => none
def GlB (g : Gm) (c : Sc) (x : Str) : Prop := GlS c x ∧ g.mg x = none
theorem fk_rng1 (hg : GlB g c "range") (ha : FA g c [e] fa) (hs : ∀ env, starEach [e] env = [(false, eval e env)] := by intro _; rfl) : FK g c tg (.Call (.Name "range" p) [e] [] pos) (wRng1 fa) :=
  ⟨fun X i W t => pi_imp (pi_range1 (hg.1.gl i) (by rw [i.mg]; exact hg.2) (ha.run X i W t) (hs _)) fun σ H R ⟨ι, gs, G, ss, sh, h⟩ => ⟨ι, gs, G, ss, sh, h.bnd.imp fun ds ι1 G1 H1 s1 t1 h1 vs rv => by
    split at h1
    · rename_i j
      cases rv with
      | cons r rr =>
        cases r with
        | int j =>
          cases rr
          by_cases hj : okR j = true
          · rw [if_pos hj] at h1
            have := of_decide_eq_true hj
            exact ⟨j, rfl, this.1, this.2, h1.val (.refl _ _ _) t1 _ (wk_r 0 j.toNat)⟩
          · rw [if_neg hj] at h1; exact h1.no
    · exact h1.no⟩⟩
theorem fk_rng2 (hg : GlB g c "range") (ha : FA g c [e, e2] fa) (hs : ∀ env, starEach [e, e2] env = [(false, eval e env), (false, eval e2 env)] := by intro _; rfl) (hs2 : ∀ env, starEach [e2] env = [(false, eval e2 env)] := by intro _; rfl) : FK g c tg (.Call (.Name "range" p) [e, e2] [] pos) (wRng2 fa) :=
  ⟨fun X i W t => pi_imp (pi_range2 (hg.1.gl i) (by rw [i.mg]; exact hg.2) (ha.run X i W t) (hs _) (hs2 _)) fun σ H R ⟨ι, gs, G, ss, sh, h⟩ => ⟨ι, gs, G, ss, sh, h.bnd.imp fun ds ι1 G1 H1 s1 t1 h1 vs rv => by
    split at h1
    · rename_i a b
      cases rv with
      | cons r rr =>
        cases r with
        | int a =>
          cases rr with
          | cons r rr =>
            cases r with
            | int b =>
              cases rr
              by_cases hj : okR a = true ∧ okR b = true
              · rw [if_pos hj] at h1
                have h2 := of_decide_eq_true hj.1
                have h3 := of_decide_eq_true hj.2
                exact ⟨a, b, rfl, ⟨h2.1, h2.2, h3.1, h3.2⟩, h1.val (.refl _ _ _) t1 _ (wk_r a (b - a).toNat)⟩
              · rw [if_neg hj] at h1; exact h1.no
    · exact h1.no⟩⟩
def enumD (xs : List D) : List D := (xs.zipIdx).map fun p => .tup [.int (p.2 : Int), p.1]
theorem enumD_get {xs : List D} {i : Nat} {d : D} (h : (enumD xs)[i]? = some d) : ∃ x, xs[i]? = some x ∧ d = .tup [.int (i : Int), x] := by
  unfold enumD at h
  rw [List.getElem?_map, List.getElem?_zipIdx] at h
  cases e : xs[i]? with
  | none => rw [e] at h; cases h
  | some x =>
    rw [e] at h
    simp at h
    exact ⟨x, rfl, h.symm⟩
theorem enumD_length (xs : List D) : (enumD xs).length = xs.length := by simp [enumD]
def wEnum (fa : SA) : SW := fun gs G => bnd (fa gs G) fun ds G1 => match ds with
  | [d] => match seqOf G1 d with
    | some (xs, gd) => some (.val (enumD xs, gd), G1)
    | none => none
  | _ => none
theorem wk_e {ι : List Addr} {H : Hp} {a : Addr} {xs : List D} {gd : Hh → Prop} (h : ∀ ι' H' G', Stp g ι H ι' H' → SimH g ι' G' H' → gd G' → ∃ vs, SqL g.K H' a vs ∧ RelDs g ι' H' xs vs) : WkOk g (Ite g.K a) (enumD xs) gd ι H := fun ι' H' G' i st sm gg hi => by
  obtain ⟨vs, hs, rs⟩ := h ι' H' G' st sm gg
  refine ⟨fun d hd => ?_, fun e => ⟨vs, hs, by rw [enumD_length, rs.length] at e; omega⟩⟩
  obtain ⟨x0, hx, rfl⟩ := enumD_get hd
  obtain ⟨v, hv, rv⟩ := rs.get hx
  refine ⟨⟨vs, v, hs, hv⟩, fun x H2 y => ?_⟩
  obtain ⟨T, x', rfl, hT, rfl, y⟩ := y
  have e := y vs hs
  rw [hv] at e
  cases e
  exact ⟨stp_upd_new hT, sm.new hT, new_tup hT (.cons (.int _) (.cons rv .nil))⟩
theorem wk_eT {ι : List Addr} {H : Hp} {a : Addr} {xs : List D} {gd : Hh → Prop} (h : ∀ ι' H' G', Stp g ι H ι' H' → SimH g ι' G' H' → gd G' → ∃ vs, SqT g.K H' a vs ∧ RelDs g ι' H' xs vs) : WkOk g (IteT g.K a 0) (enumD xs) gd ι H := fun ι' H' G' i st sm gg hi => by
  obtain ⟨vs, hs, rs⟩ := h ι' H' G' st sm gg
  refine ⟨fun d hd => ?_, fun e => ⟨vs, hs, by rw [enumD_length, rs.length] at e; omega⟩⟩
  obtain ⟨x0, hx, rfl⟩ := enumD_get hd
  obtain ⟨v, hv, rv⟩ := rs.get hx
  refine ⟨⟨vs, v, hs, hv⟩, fun x H2 y => ?_⟩
  obtain ⟨T, x', rfl, hT, rfl, y⟩ := y
  have e := y vs hs
  rw [hv] at e
  cases e
  rw [Int.zero_add]
  exact ⟨stp_upd_new hT, sm.new hT, new_tup hT (.cons (.int _) (.cons rv .nil))⟩
theorem fk_enum {elts : List Expr} {kk : Nat} (hg : GlB g c "enumerate") (ha : FA g c [e] fa) (hs : ∀ env, starEach [e] env = [(false, eval e env)] := by intro _; rfl) : FK g c (.Tuple elts kk tpos) (.Call (.Name "enumerate" p) [e] [] pos) (wEnum fa) :=
  ⟨fun X i W t => pi_imp (pi_enumT (hg.1.gl i) (by rw [i.mg]; exact hg.2) (ha.run X i W t) (hs _)) fun σ H R ⟨ι, gs, G, ss, sh, h⟩ => ⟨ι, gs, G, ss, sh, h.bnd.imp fun ds ι1 G1 H1 s1 t1 h1 vs rv => by
    split at h1
    · rename_i d
      cases rv with
      | cons r rr =>
        cases rr
        cases e : seqOf G1 d with
        | none => rw [e] at h1; exact h1.no
        | some q =>
          obtain ⟨xs, gd⟩ := q
          rw [e] at h1
          obtain ⟨a, rfl, hh⟩ := seq_at t1 r e
          have k := h1.val (.refl _ _ _) t1
          rw [i.K]
          rcases hh with ⟨h2, vs, h3, h4⟩ | ⟨h2, vs, h3, h4⟩
          · exact ⟨a, rfl, .inl ⟨vs, h3, k _ (wk_e h2)⟩⟩
          · exact ⟨a, rfl, .inr ⟨vs, h3, k _ (wk_eT h2)⟩⟩
    · exact h1.no⟩⟩
end
structure FGs (g : Gm) (c : Sc) (tgs : List Expr) (sl : List Nat) (f : List D → Sg → Hh → Option (Sg × Hh)) : Prop where
  run : ∀ X, XIs g c X → PGs X tgs fun vs σ H Q => ∃ ι gs G ds gs' G', SimS g ι H gs σ ∧ SimH g ι G H ∧ RelDs g ι H ds vs ∧ f ds gs G = some (gs', G') ∧ ∀ ι' H' σ', Stp g ι H ι' H' → SimH g ι' G' H' → SimS g ι' H' gs' σ' → But sl σ σ' → Q σ' H'
def gsNil : List D → Sg → Hh → Option (Sg × Hh) := fun ds gs G => match ds with
  | [] => some (gs, G)
  | _ => none
def gsCons (t : GT) (u : List D → Sg → Hh → Option (Sg × Hh)) : List D → Sg → Hh → Option (Sg × Hh) := fun ds gs G => match ds with
  | d :: r => match t d gs G with
    | some (gs1, G1) => u r gs1 G1
    | none => none
  | [] => none
def gTp (n : Nat) (u : List D → Sg → Hh → Option (Sg × Hh)) : GT := fun d gs G => match d with
  | .tup xs => if xs.length = n then u xs gs G else none
  | .kt xs => if xs.length = n then u xs gs G else none
  | _ => none
section
variable {g : Gm} {c : Sc} {e : Expr} {es : List Expr} {t : GT} {u : List D → Sg → Hh → Option (Sg × Hh)} {sl sm : List Nat} {pos : Pos}
theorem pgs_imp {X : Cx} {tg : List Expr} {t t' : TGs} (h : PGs X tg t) (k : ∀ v σ H Q, t' v σ H Q → t v σ H Q) : PGs X tg t' := ⟨fun pins s σ H v u Q I r q => h.run pins s σ H v u Q I r (k v σ H Q q)⟩
theorem fgs_nil : FGs g c [] [] gsNil := ⟨fun X i => pgs_imp pgs_nil fun vs σ H Q ⟨ι, gs, G, ds, gs', G', ss, sh, rv, e, q⟩ => by
  cases rv with
  | nil =>
    cases e
    exact ⟨rfl, q ι H σ (.refl _ _ _) sh ss .refl⟩
  | cons _ _ => cases e⟩
theorem fgs_cons (h1 : FG g c e sl t) (h2 : FGs g c es sm u) (hs : ∀ env, (assignEach (e :: es) env).map (·.2) = assign e env :: (assignEach es env).map (·.2) := by intro _; rfl) : FGs g c (e :: es) (sl ++ sm) (gsCons t u) := ⟨fun X i => pgs_imp (pgs_cons (h1.run X i) (h2.run X i) (hs _)) fun vs σ H Q ⟨ι, gs, G, ds, gs', G', ss, sh, rv, e, q⟩ => by
  cases rv with
  | nil => cases e
  | @cons d ds v vs r rr =>
    unfold gsCons at e
    dsimp only at e
    cases e1 : t d gs G with
    | none => rw [e1] at e; cases e
    | some p =>
      obtain ⟨gs1, G1⟩ := p
      rw [e1] at e
      exact ⟨v, vs, rfl, ι, gs, G, d, gs1, G1, ss, sh, r, e1, fun ι1 H1 σ1 s1 t1 u1 b1 => ⟨ι1, gs1, G1, ds, gs', G', u1, t1, rr.mono s1, e, fun ι2 H2 σ2 s2 t2 u2 b2 => q ι2 H2 σ2 (s1.trans s2) t2 u2
        ((b1.mono fun j hj => List.mem_append_left _ hj).trans (b2.mono fun j hj => List.mem_append_right _ hj))⟩⟩⟩
theorem fg_tup {k n : Nat} (h : FGs g c es sl u) (hn : ∀ env, (assignEach es env).length = n := by intro _; rfl) (hst : ∀ env, (assignEach es env).findIdx? (·.1) = none := by intro _; rfl) (hh : c.hot = false := by rfl) : FG g c (.Tuple es k pos) sl (gTp n u) :=
  ⟨fun X i => pg_imp (pg_tup (i.calm hh) (h.run X i) (hn _) (hst _)) fun v σ H Q ⟨ι, gs, G, d, gs', G', ss, sh, rv, e, q⟩ => by
    rw [i.K]
    cases rv with
    | @tup xs a vs ha rs =>
      unfold gTp at e
      dsimp only at e
      by_cases hl : xs.length = n
      · rw [if_pos hl] at e
        exact ⟨a, vs, rfl, .inl (.inl ha), by rw [← rs.length]; exact hl, ι, gs, G, xs, gs', G', ss, sh, rs, e, q⟩
      · rw [if_neg hl] at e; cases e
    | @kt xs a vs ha rs =>
      unfold gTp at e
      dsimp only at e
      by_cases hl : xs.length = n
      · rw [if_pos hl] at e
        exact ⟨a, vs, rfl, ha.sq, by rw [← rs.length]; exact hl, ι, gs, G, xs, gs', G', ss, sh, rs, e, q⟩
      · rw [if_neg hl] at e; cases e
    | _ => cases e⟩
end
end FI
set_option maxRecDepth 100000
set_option maxHeartbeats 1000000
namespace SrtO
open PySem PySem.Spec PyProof.Rows
def lexI : List Int → List Int → Bool
  | _, [] => false
  | [], _ :: _ => true
  | x :: xs, y :: ys => if x = y then lexI xs ys else decide (x < y)
theorem lexI_asym : ∀ xs ys, lexI xs ys = true → lexI ys xs = false
  | _, [], h => by simp [lexI] at h
  | [], _ :: _, _ => rfl
  | x :: xs, y :: ys, h => by
    unfold lexI at h ⊢
    by_cases e : x = y
    · rw [if_pos e] at h
      rw [if_pos e.symm]
      exact lexI_asym xs ys h
    · rw [if_neg e] at h
      rw [if_neg (fun z => e z.symm)]
      have := of_decide_eq_true h
      exact decide_eq_false (by omega)
theorem lexI_tr : ∀ xs ys zs, lexI ys xs = false → lexI zs ys = false → lexI zs xs = false
  | [], _, zs, _, _ => by cases zs <;> rfl
  | _ :: _, [], _, h, _ => by simp [lexI] at h
  | _ :: _, _ :: _, [], _, h => by simp [lexI] at h
  | x :: xs, y :: ys, z :: zs, h1, h2 => by
    unfold lexI at h1 h2 ⊢
    by_cases e1 : y = x
    · rw [if_pos e1] at h1
      by_cases e2 : z = y
      · rw [if_pos e2] at h2
        rw [if_pos (e2.trans e1)]
        exact lexI_tr xs ys zs h1 h2
      · rw [if_neg e2] at h2
        have := of_decide_eq_false h2
        rw [if_neg (by omega)]
        exact decide_eq_false (by omega)
    · rw [if_neg e1] at h1
      have a1 := of_decide_eq_false h1
      by_cases e2 : z = y
      · rw [if_neg (by omega)]
        exact decide_eq_false (by omega)
      · rw [if_neg e2] at h2
        have a2 := of_decide_eq_false h2
        rw [if_neg (by omega)]
        exact decide_eq_false (by omega)
theorem swo_lexI {α : Type} (k : α → List Int) : Swo fun v u => lexI (k v) (k u) := ⟨fun x y => lexI_asym _ _, fun x y z => lexI_tr _ _ _⟩
def IsTupI (h : Heap) (v : Value) (ns : List Int) : Prop := ns ≠ [] ∧ ∃ a o its n, v = .ref a ∧ h.get? a = some o ∧ o.cls = .type "tuple" ∧ o.data = .seq its n ∧ IntsAre its.toList ns
theorem IsTupI.keeps {h h' : Heap} {v : Value} {ns : List Int} (p : IsTupI h v ns) (k : ∀ b o, h.get? b = some o → o.cls = .type "tuple" → h'.get? b = some o) : IsTupI h' v ns := by
  obtain ⟨h0, a, o, its, n, e, ho, hc, hd⟩ := p
  exact ⟨h0, a, o, its, n, e, k _ _ ho hc, hc, hd⟩
section
variable {prog : Program} {w : World} {A : Around} {E : Value → Shared → Prop} {s : Shared}
theorem kat_ints {fin : Bool} {Q : Bool → Shared → Prop} : ∀ {vs us : List Value} {ns ms : List Int} {i : Nat}, IntsAre vs ns → IntsAre us ms → fin = decide (ns.length < ms.length) → Q (lexI ns ms) s → PySem.W.KatLex prog w A true fin Q (vs.zip us) i s
  | [], us, [], ms, i, h, h', ef, q => by
    rw [List.zip_nil_left]
    refine PySem.W.kat_nil ?_
    cases ms with
    | nil => subst ef; exact q
    | cons m ms => subst ef; simpa [lexI] using q
  | v :: vs, [], n :: ns, [], i, h, h', ef, q => by
    rw [List.zip_nil_right]
    refine PySem.W.kat_nil ?_
    subst ef
    exact q
  | v :: vs, u :: us, n :: ns, m :: ms, i, h, h', ef, q => by
    rw [List.zip_cons_cons]
    cases h with
    | cons t =>
      cases h' with
      | cons t' =>
        refine PySem.W.kat_cons (SeqAt.EqAt.int_int n _ m _ prog w _ _ ?_)
        refine PySem.W.kat_go (fun e1 => ?_) (fun e1 => ?_)
        · have ex : n = m := by simpa using e1
          unfold lexI at q
          rw [if_pos ex] at q
          exact PySem.W.kat_yes (kat_ints (by assumption) (by assumption) (by rw [ef]; simp) q)
        · have ex : ¬ n = m := by simpa using e1
          unfold lexI at q
          rw [if_neg ex] at q
          cases i with
          | zero => exact PySem.W.kat_no (oneLt_int q)
          | succ i => exact PySem.W.kat_no (PySem.W.kat_one _ _ (PyProof.Rows.lt_int q))
end
end SrtO
namespace SrtO
open PySem PySem.Spec PyProof.Rows
section
variable {prog : Program} {w : World} {A : Around} {E : Value → Shared → Prop} {s : Shared}
theorem tupI_cmp {vs : List Value} {k : Value → List Int} (hp : ∀ v ∈ vs, IsTupI s.heap v (k v)) : Cmp prog w A s (tuples' true) (fun p => p.1 ∈ vs) (lt2 fun v u => lexI (k v) (k u)) := by
  intro p q hm hm'
  obtain ⟨_, a, o, its, n, e, ho, hc, hd, hi⟩ := hp _ hm
  obtain ⟨_, a', o', its', n', e', ho', hc', hd', hi'⟩ := hp _ hm'
  show wpAny (model prog w) A (keyLt' (tuples' true) p.1 q.1) (fun r s' => s' = s ∧ r = lexI (k p.1) (k q.1)) (fun _ _ => False) s
  rw [e, e'] at *
  refine PySem.W.kat_lt ho hd ho' hd' ?_
  have l1 := hi.length
  have l2 := hi'.length
  exact kat_ints hi hi' (by rw [← Array.length_toList, ← Array.length_toList, l1, l2]) ⟨rfl, rfl⟩
theorem firsts_I {h : Heap} {k : Value → List Int} : ∀ {vs : List Value}, (∀ v ∈ vs, IsTupI h v (k v)) → ∃ fs : List Value, PySem.W.KatTups h vs fs ∧ fs.length = vs.length ∧ ∀ f ∈ fs, ∃ x t, f = Value.int x t
  | [], _ => ⟨[], PySem.W.KatTups.nil, rfl, fun _ hm => by simp at hm⟩
  | v :: vs, hp => by
    obtain ⟨fs, h1, h2, h3⟩ := firsts_I (vs := vs) fun v' hm => hp v' (List.mem_cons_of_mem _ hm)
    obtain ⟨hne, a, o, its, n, e, ho, hc, hd, hi⟩ := hp v (List.mem_cons_self ..)
    generalize hkv : k v = kv at hi hne
    obtain ⟨its⟩ := its
    cases hi with
    | nil => exact absurd rfl hne
    | @cons x t vs' ns hr =>
      subst e
      refine ⟨.int x t :: fs, PySem.W.KatTups.cons ho hc hd rfl h1, by rw [List.length_cons, List.length_cons, h2], fun f hm => ?_⟩
      rcases List.mem_cons.mp hm with rfl | hm
      · exact ⟨x, t, rfl⟩
      · exact h3 f hm
theorem tupI_sortableO {a : Addr} {vs : List Value} {k : Value → List Int} (h0 : 0 < vs.length) (hp : ∀ v ∈ vs, IsTupI s.heap v (k v)) (ha : ∀ o, s.heap.get? a = some o → o.cls ≠ .type "tuple") : SortableO prog w A s a vs fun v u => lexI (k v) (k u) := by
  intro h' keep
  have hp' : ∀ v ∈ vs, IsTupI h' v (k v) := fun v hm => (hp v hm).keeps fun b o e c => keep b o (fun z => by subst z; exact ha o e c) e
  obtain ⟨fs, h1, h2, h3⟩ := firsts_I hp'
  refine ⟨tuples' true, fun Q E hq => ?_, tupI_cmp hp'⟩
  refine PySem.W.kat_kind (T := .type "int") h1 (by omega) (fun f hm => ?_) (by rfl) ?_
  · obtain ⟨x, t, rfl⟩ := h3 f hm
    exact PySem.W.Looks.now
  · have e : (Value.type "int" != Value.type "tuple") = true := by first | decide +kernel | rfl | decide
    rw [e]
    exact hq
theorem sorted_tupI {l : Addr} {vs : List Value} {k : Value → List Int} {Q : Value → Shared → Prop} (hl : s.heap.IsList l vs.toArray) (hz : vs.length ≤ sizeLine) (hp : ∀ v ∈ vs, IsTupI s.heap v (k v))
    (h : ∀ (h' : Heap) (d : Addr) (out : List Value), Srtd (fun v u => lexI (k v) (k u)) out → Stb (fun v u => lexI (k v) (k u)) out vs → (∀ b o, s.heap.get? b = some o → h'.get? b = some o) → s.heap.objs.size ≤ d → (∃ n, h'.get? d = some (seqObj "list" out.toArray n)) → Q (.ref d) { s with heap := h' }) :
    wpAny (model prog w) A (call (.builtin "sorted") [.ref l]) Q E s := by
  refine sorted_ord (swo_lexI k) hl hz (fun h2 h₁ a ha kk => ?_) fun out hs hb => ?_
  · refine tupI_sortableO (s := { s with heap := h₁ }) (by omega) (fun v hm => (hp v hm).keeps fun b o e _ => (kk b o e).2) fun o e => ?_
    have e' : some o = some (seqObj "list" vs.toArray 0) := e.symm.trans ha
    cases e'
    intro c
    exact absurd (Value.type.inj c) (by decide)
  · exact h _ _ out hs hb (fun b o e => sortedAll_old e) (Nat.le_succ _) (sortedAll_at s.heap vs out.toArray)
end
theorem lexI_eq : ∀ xs ys, lexI xs ys = false → lexI ys xs = false → xs = ys
  | [], [], _, _ => rfl
  | [], _ :: _, h, _ => by simp [lexI] at h
  | _ :: _, [], _, h => by simp [lexI] at h
  | x :: xs, y :: ys, h1, h2 => by
    unfold lexI at h1 h2
    by_cases e : x = y
    · rw [if_pos e] at h1
      rw [if_pos e.symm] at h2
      rw [e, lexI_eq xs ys h1 h2]
    · rw [if_neg e] at h1
      rw [if_neg (fun z => e z.symm)] at h2
      have a := of_decide_eq_false h1
      have b := of_decide_eq_false h2
      omega
theorem srt_uniq {α : Type} {le : α → α → Prop} (ha : ∀ x y, le x y → le y x → x = y) : ∀ {l m : List α}, l.Perm m → l.Pairwise le → m.Pairwise le → l = m
  | [], m, p, _, _ => (List.Perm.nil_eq p)
  | x :: l, [], p, _, _ => absurd p.length_eq (by simp)
  | x :: l, y :: m, p, h1, h2 => by
    have hx := List.pairwise_cons.mp h1
    have hy := List.pairwise_cons.mp h2
    have e : x = y := by
      have m1 : x ∈ y :: m := p.mem_iff.mp (List.mem_cons_self ..)
      have m2 : y ∈ x :: l := p.mem_iff.mpr (List.mem_cons_self ..)
      rcases List.mem_cons.mp m1 with e | m1
      · exact e
      · rcases List.mem_cons.mp m2 with e | m2
        · exact e.symm
        · exact ha x y (hx.1 y m2) (hy.1 x m1)
    subst e
    rw [srt_uniq ha p.cons_inv hx.2 hy.2]
end SrtO
namespace L2
open PySem PySem.Spec PyProof.Rows
def rSortedTI (K : PySem.W.Frag) : List V → Hp → VK → Prop := fun vs H Q => ∃ (a : Addr) (xs : List V) (k : V → List Int), vs = [V.ref a] ∧ SqL K H a xs ∧ (∀ x ∈ xs, k x ≠ [] ∧ ∃ t, x = V.ref t ∧ H t = some (.tup ((k x).map V.int))) ∧
  ∀ ys p, SrtO.Srtd (fun x y => SrtO.lexI (k x) (k y)) ys → ys.Perm xs → H p = none → Q (.ref p) (upd H p (.lst ys))
theorem cr_sortedTI {X : Cx} : CallR X (.builtin "sorted") (rSortedTI X.K) := by
  intro pins s σ H vs us Q I r h
  obtain ⟨a, xs, k, rfl, hs, hx, q⟩ := h
  obtain ⟨its, rv, hl, hz⟩ := I.list hs
  obtain ⟨u, rfl, ru⟩ := vals1 r
  obtain rfl : u = Value.ref a := ru
  obtain ⟨e1, e2⟩ := refs_back rv fun x m => by
    obtain ⟨_, t, e, _⟩ := hx x m
    exact ⟨t, e⟩
  refine SrtO.sorted_tupI (k := fun u => k (backV u)) hl.isList (by rw [← rv.length]; exact hz) (fun v hv => ?_) fun h' d out h1 h2 kp hd hn => ?_
  · obtain ⟨t, rfl⟩ := e2 v hv
    have hm : V.ref t ∈ xs := by rw [e1]; exact List.mem_map.mpr ⟨_, hv, rfl⟩
    obtain ⟨hne, t', e, ht⟩ := hx _ hm
    cases e
    obtain ⟨_, its2, r2, o, ho, hc, n, hd⟩ := I.hok _ _ ht
    exact ⟨hne, t, o, its2.toArray, n, rfl, ho, hc, hd, r2.ints⟩
  · have h3 : ∀ u ∈ out, ∃ a, u = Value.ref a := fun u hu => e2 u (h2.perm.mem_iff.mp hu)
    obtain ⟨n, hn⟩ := hn
    have hb : (out.map backV).Perm xs := by
      rw [e1]
      exact h2.perm.map backV
    refine ⟨.ref d, upd H d (.lst (out.map backV)), I.laid (t' := s.toks) kp hd ⟨?_, out, n, vals_back h3, hn⟩, rfl, q _ d (SrtO.srtd_map h1) hb (I.hok.fresh hd)⟩
    rw [hb.length_eq]
    exact hz
end L2
set_option maxRecDepth 100000
set_option maxHeartbeats 1000000
namespace FI
open PySem L2 PySem.Spec PyProof.Rows
structure BltOk (g : Gm) (f : Value) (F : List D → Mm D) (h : Bool := false) : Prop where
  run : ∀ c X, XIs g c X → (h = true → c.hot = false) → ∃ r, CallR X f r ∧ PrA g r F
section
variable {g : Gm} {c : Sc} {e : Expr} {es : List Expr} {fa : SA} {p pos : Pos} {F F' : List D → Mm D} {x : Str} {id T : String} {f : Value}
theorem BltOk.or {q q' : Bool} (h : BltOk g f F q) (h' : BltOk g f F' q') : BltOk g f (h := q || q') (fun ds G => match F ds G with
  | some z => some z
  | none => F' ds G) := ⟨fun c X i hh => by
  obtain ⟨r, o, p⟩ := h.run c X i (fun z => hh (by rw [z]; rfl))
  obtain ⟨r', o', p'⟩ := h'.run c X i (fun z => hh (by rw [z, Bool.or_true]))
  refine ⟨_, o.or o', fun W σ ι G H ds xs Q sh rs q => ?_⟩
  cases hF : F ds G with
  | some z => exact .inl (p W σ ι G H ds xs Q sh rs (by rw [hF]; simpa only [hF] using q))
  | none => exact .inr (p' W σ ι G H ds xs Q sh rs (by simpa only [hF] using q))⟩
theorem fe_blt {q : Bool} (hf : BltOk g (.builtin id) F q) (hg : GlB g c x) (ha : FA g c (e :: es) fa) (hv : bootBuiltins x = some (.builtin id) := by rfl) (hn : x ≠ "__name__" := by decide) (hdb : (x == ("__debug__" : Str)) = false := by decide)
    (he : ∀ env, starEach (e :: es) env = (false, eval e env) :: starEach es env := by intro _; rfl) (hpl : ∀ env, (backTo pos (starEach es env)).any (·.1) = false := by intro _; rfl) (hh : q = true → c.hot = false := by first | exact (fun _ => rfl) | exact (fun z => nomatch z)) : FE g c (.Call (.Name x p) (e :: es) [] pos) (eArgs F fa) :=
  ⟨fun X i W t => by
    obtain ⟨r, hr, pr⟩ := hf.run c X i hh
    exact pe_imp (pe_callB hr (hg.1.gl i) (by rw [i.mg]; exact hg.2) hv (ha.run X i W t) hn hdb (he _) (hpl _)) fun σ H Q ⟨ι, gs, G, ss, sh, h⟩ => ⟨ι, gs, G, ss, sh, h.bnd.imp fun ds ι1 G1 H1 s1 t1 h1 vs rv => pr W σ ι1 G1 H1 ds vs Q t1 rv h1⟩⟩
theorem fe_bty {q : Bool} (hf : BltOk g (.type T) F q) (hg : GlB g c x) (ha : FA g c (e :: es) fa) (hv : bootBuiltins x = some (.type T) := by rfl) (hn : x ≠ "__name__" := by decide) (hdb : (x == ("__debug__" : Str)) = false := by decide)
    (he : ∀ env, starEach (e :: es) env = (false, eval e env) :: starEach es env := by intro _; rfl) (hpl : ∀ env, (backTo pos (starEach es env)).any (·.1) = false := by intro _; rfl) (hh : q = true → c.hot = false := by first | exact (fun _ => rfl) | exact (fun z => nomatch z)) : FE g c (.Call (.Name x p) (e :: es) [] pos) (eArgs F fa) :=
  ⟨fun X i W t => by
    obtain ⟨r, hr, pr⟩ := hf.run c X i hh
    exact pe_imp (pe_callTy hr (hg.1.gl i) (by rw [i.mg]; exact hg.2) hv (ha.run X i W t) hn hdb (he _) (hpl _)) fun σ H Q ⟨ι, gs, G, ss, sh, h⟩ => ⟨ι, gs, G, ss, sh, h.bnd.imp fun ds ι1 G1 H1 s1 t1 h1 vs rv => pr W σ ι1 G1 H1 ds vs Q t1 rv h1⟩⟩
end
def d1 (F : D → Mm D) : List D → Mm D := fun ds G => match ds with
  | [d] => F d G
  | _ => none
def d2 (F : D → D → Mm D) : List D → Mm D := fun ds G => match ds with
  | [d, e] => F d e G
  | _ => none
def lenD (G : Hh) : D → Option Nat
  | .str x => if x.length ≤ 100000 then some x.length else none
  | .tup xs => some xs.length
  | .kt xs => some xs.length
  | .kl xs => some xs.length
  | .ref n => match G[n]? with
    | some (.lst xs) => some xs.length
    | some (.dK kvs) => some kvs.length
    | some (.dT kvs) => some kvs.length
    | _ => none
  | _ => none
def bLen : D → Mm D := fun d G => match lenD G d with
  | some n => some (.val (.int n), G)
  | none => none
def bAbs : D → Mm D := fun d G => match d with
  | .int i => some (.val (.int (if i < 0 then -i else i)), G)
  | _ => none
def bInt : D → Mm D := fun d G => match d with
  | .int i => some (.val (.int i), G)
  | .bl k => some (.val (.int (if k then 1 else 0)), G)
  | _ => none
def bMax2 : D → D → Mm D := fun d e G => match d, e with
  | .int i, .int j => some (.val (.int (if j > i then j else i)), G)
  | _, _ => none
def bMin2 : D → D → Mm D := fun d e G => match d, e with
  | .int i, .int j => some (.val (.int (if j < i then j else i)), G)
  | _, _ => none
def bList : D → Mm D := fun d G => match itemsD G d with
  | some xs => some (.val (.ref G.length), G ++ [.lst xs])
  | none => none
def bTuple : D → Mm D := fun d G => match d with
  | .tup xs => some (.val (.tup xs), G)
  | .kt xs => some (.val (.kt xs), G)
  | _ => match itemsD G d with
    | some xs => some (.val (.tup xs), G)
    | none => none
def bSum : D → Mm D := fun d G => match d with
  | .tup _ => none
  | .kt _ => none
  | _ => match itemsD G d with
    | some xs => match intsOf xs with
      | some ns => some (.val (.int ns.sum), G)
      | none => none
    | none => none
section
variable {g : Gm}
theorem rels1 {ι : List Addr} {H : Hp} {ds : List D} {vs : List V} (r : RelDs g ι H ds vs) {d : D} (e : ds = [d]) : ∃ v, vs = [v] ∧ RelD g ι H d v := by
  subst e
  cases r with
  | cons r rr => cases rr; exact ⟨_, rfl, r⟩
theorem rels2 {ι : List Addr} {H : Hp} {ds : List D} {vs : List V} (r : RelDs g ι H ds vs) {d e : D} (h : ds = [d, e]) : ∃ v w, vs = [v, w] ∧ RelD g ι H d v ∧ RelD g ι H e w := by
  subst h
  cases r with
  | cons r rr =>
    cases rr with
    | cons r' rr => cases rr; exact ⟨_, _, rfl, r, r'⟩
theorem pra1 {r : List V → Hp → VK → Prop} {F : D → Mm D} (h : ∀ (W : WX) (σ : L2.St) (ι : List Addr) (G : Hh) (H : Hp) (d : D) (x : V) (Q : VK), SimH g ι G H → RelD g ι H d x → Gv g W σ ι H (F d G) (fun z ι' _ H' => ∀ v, RelD g ι' H' z v → Q v H') → r [x] H Q) : PrA g r (d1 F) := by
  intro W σ ι G H ds xs Q sh rs q
  unfold d1 at q
  split at q
  · obtain ⟨v, rfl, rv⟩ := rels1 rs rfl
    exact h W σ ι G H _ v Q sh rv q
  · exact q.no
theorem pra2 {r : List V → Hp → VK → Prop} {F : D → D → Mm D} (h : ∀ (W : WX) (σ : L2.St) (ι : List Addr) (G : Hh) (H : Hp) (d e : D) (x y : V) (Q : VK), SimH g ι G H → RelD g ι H d x → RelD g ι H e y → Gv g W σ ι H (F d e G) (fun z ι' _ H' => ∀ v, RelD g ι' H' z v → Q v H') → r [x, y] H Q) : PrA g r (d2 F) := by
  intro W σ ι G H ds xs Q sh rs q
  unfold d2 at q
  split at q
  · obtain ⟨v, w, rfl, rv, rw'⟩ := rels2 rs rfl
    exact h W σ ι G H _ _ v w Q sh rv rw' q
  · exact q.no
theorem b_len : BltOk g (.builtin "len") (d1 bLen) := ⟨fun c X i hh => ⟨_, (call_len.or call_lenD).or call_len_dT, pra1 fun W σ ι G H d x Q sh rx q => by
  unfold bLen at q
  cases h1 : lenD G d with
  | none => rw [h1] at q; exact q.no
  | some n =>
    rw [h1] at q
    have k := q.val (.refl _ _ _) sh _ (.int (n : Int))
    rw [i.K]
    cases rx with
    | str z =>
      unfold lenD at h1
      dsimp only at h1
      by_cases hz : z.length ≤ 100000
      · rw [if_pos hz] at h1; cases h1; exact .inl (.inl ⟨_, _, rfl, ⟨line_of hz, rfl⟩, k⟩)
      · rw [if_neg hz] at h1; cases h1
    | @tup xs a vs ha rs => cases h1; rw [rs.length] at k; exact .inl (.inl ⟨_, _, rfl, .inr ⟨vs, .inl (.inl ha), rfl⟩, k⟩)
    | @kt xs a vs ha rs => cases h1; rw [rs.length] at k; exact .inl (.inl ⟨_, _, rfl, .inr ⟨vs, ha.sq, rfl⟩, k⟩)
    | @kl xs a vs ha rs => cases h1; rw [rs.length] at k; exact .inl (.inl ⟨_, _, rfl, .inl ⟨vs, ha.sq, rfl⟩, k⟩)
    | @ref m a ha =>
      unfold lenD at h1
      dsimp only at h1
      cases hm : G[m]? with
      | none => rw [hm] at h1; cases h1
      | some o =>
        rw [hm] at h1
        cases o with
        | lst xs =>
          cases h1
          obtain ⟨vs, hv, rs⟩ := lst_at sh ha hm
          rw [rs.length] at k
          exact .inl (.inl ⟨_, _, rfl, .inl ⟨vs, .inl (.inl hv), rfl⟩, k⟩)
        | dK xs =>
          cases h1
          obtain ⟨vs, hv, rs⟩ := dk_at sh ha hm
          rw [rs.length] at k
          exact .inl (.inr ⟨a, vs, rfl, hv, k⟩)
        | dT xs =>
          cases h1
          obtain ⟨vs, hv, rs⟩ := dt_at sh ha hm
          rw [rs.length] at k
          exact .inr ⟨a, vs, rfl, hv, k⟩
        | dF _ => cases h1
        | ins _ _ => cases h1
    | _ => cases h1⟩⟩
theorem b_int : BltOk g (.type "int") (d1 bInt) := ⟨fun c X i hh => ⟨_, call_int1, pra1 fun W σ ι G H d x Q sh rx q => by
  cases rx with
  | int j => exact .inl ⟨j, rfl, q.val (.refl _ _ _) sh _ (.int _)⟩
  | bl k => exact .inr ⟨k, rfl, q.val (.refl _ _ _) sh _ (.int _)⟩
  | _ => exact q.no⟩⟩
theorem b_max2 : BltOk g (.builtin "max") (d2 bMax2) true := ⟨fun c X i hh => ⟨_, call_max2 (i.calm (hh rfl)), pra2 fun W σ ι G H d e x y Q sh rx ry q => by
  cases rx <;> cases ry <;> first | exact q.no | exact ⟨_, _, rfl, q.val (.refl _ _ _) sh _ (.int _)⟩⟩⟩
theorem b_min2 : BltOk g (.builtin "min") (d2 bMin2) true := ⟨fun c X i hh => ⟨_, call_min2 (i.calm (hh rfl)), pra2 fun W σ ι G H d e x y Q sh rx ry q => by
  cases rx <;> cases ry <;> first | exact q.no | exact ⟨_, _, rfl, q.val (.refl _ _ _) sh _ (.int _)⟩⟩⟩
theorem b_list : BltOk g (.type "list") (d1 bList) := ⟨fun c X i hh => ⟨_, call_list_of, pra1 fun W σ ι G H d x Q sh rx q => by
  unfold bList at q
  cases h1 : itemsD G d with
  | none => rw [h1] at q; exact q.no
  | some xs =>
    rw [h1] at q
    obtain ⟨a, vs, rfl, hs, rs⟩ := items_at sh rx h1
    rw [i.K]
    refine ⟨a, vs, rfl, hs, fun l hl => ?_⟩
    obtain ⟨st, sm, rd⟩ := new_lst sh hl rs
    exact q.val st sm _ rd⟩⟩
theorem b_tuple : BltOk g (.type "tuple") (d1 bTuple) := ⟨fun c X i hh => ⟨_, call_tuple_of, pra1 fun W σ ι G H d x Q sh rx q => by
  rw [i.K]
  cases rx with
  | @tup xs a vs ha rs => exact ⟨a, vs, rfl, .inr ⟨.inl (.inl ha), q.val (.refl _ _ _) sh _ (.tup ha rs)⟩⟩
  | @kt xs a vs ha rs => exact ⟨a, vs, rfl, .inr ⟨ha.sq, q.val (.refl _ _ _) sh _ (.kt ha rs)⟩⟩
  | @kl xs a vs ha rs => exact ⟨a, vs, rfl, .inl ⟨ha.sq, fun l hl => q.val (stp_upd_new hl) (sh.new hl) _ (new_tup hl rs)⟩⟩
  | @ref n a ha =>
    unfold bTuple itemsD at q
    dsimp only at q
    cases hm : G[n]? with
    | none => rw [hm] at q; exact q.no
    | some o =>
      rw [hm] at q
      cases o with
      | lst xs =>
        obtain ⟨vs, hv, rs⟩ := lst_at sh ha hm
        exact ⟨a, vs, rfl, .inl ⟨.inl (.inl hv), fun l hl => q.val (stp_upd_new hl) (sh.new hl) _ (new_tup hl rs)⟩⟩
      | _ => exact q.no
  | _ => exact q.no⟩⟩
theorem b_sum : BltOk g (.builtin "sum") (d1 bSum) true := ⟨fun c X i hh => ⟨_, cr_sum (i.calm (hh rfl)), pra1 fun W σ ι G H d x Q sh rx q => by
  rw [i.K]
  cases rx with
  | @kl xs a vs ha rs =>
    unfold bSum itemsD at q
    dsimp only at q
    cases h2 : intsOf xs with
    | none => rw [h2] at q; exact q.no
    | some ns => rw [h2] at q; exact ⟨a, ns, rfl, by rw [← rel_ints rs h2]; exact ha.sq, q.val (.refl _ _ _) sh _ (.int _)⟩
  | @ref n a ha =>
    unfold bSum itemsD at q
    dsimp only at q
    cases hm : G[n]? with
    | none => rw [hm] at q; exact q.no
    | some o =>
      rw [hm] at q
      cases o with
      | lst xs =>
        obtain ⟨vs, hv, rs⟩ := lst_at sh ha hm
        dsimp only at q
        cases h2 : intsOf xs with
        | none => rw [h2] at q; exact q.no
        | some ns => rw [h2] at q; exact ⟨a, ns, rfl, by rw [← rel_ints rs h2]; exact .inl (.inl hv), q.val (.refl _ _ _) sh _ (.int _)⟩
      | _ => exact q.no
  | _ => exact q.no⟩⟩
inductive TC where
  | b (n : String)
  | o (c : Nat)
  deriving DecidableEq
inductive CC where
  | ty (n : String)
  | gl (x : Str)
  deriving DecidableEq
def tcD (G : Hh) : D → Option TC
  | .non => some (.b "NoneType")
  | .bl _ => some (.b "bool")
  | .int _ => some (.b "int")
  | .str _ => some (.b "str")
  | .tup _ => some (.b "tuple")
  | .kt _ => some (.b "tuple")
  | .kl _ => some (.b "list")
  | .ref n => match G[n]? with
    | some (.lst _) => some (.b "list")
    | some (.dK _) => some (.b "dict")
    | some (.dT _) => some (.b "dict")
    | some (.dF _) => none
    | some (.ins c _) => some (.o c)
    | none => none
  | _ => none
def ccD : D → Option CC
  | .ty n => some (.ty n)
  | .glb x => some (.gl x)
  | _ => none
def tcV (g : Gm) : TC → Value
  | .b n => .type n
  | .o c => .ref (g.cls c)
def ccV (g : Gm) : CC → Option Value
  | .ty n => some (.type n)
  | .gl x => g.mg x
abbrev Kit := List ((TC × CC) × Bool)
structure InsOk (K : PySem.W.Frag) (C : Addr) : Prop where
  cl : Cls K C
  ha : PySem.W.findIn K (.ref C) "__class__" = some (some (.builtin "object.__class__"))
  hn : PySem.W.specialIn K (.builtin "object.__class__") "__get__" = some (some (.builtin "getset_descriptor.__get__"))
  htk : PySem.W.takesIn K (.builtin "object.__class__") = some true
  hm : PySem.W.mroIn K C (.type "object") = some true
structure KitOk (g : Gm) (kt : Kit) : Prop where
  one : ∀ e, e ∈ kt → ∃ u, ccV g e.1.2 = some u ∧ PySem.W.kitOne g.K (tcV g e.1.1) u = some e.2
  ins : ∀ e, e ∈ kt → ∀ c, e.1.1 = .o c → InsOk g.K (g.cls c)
def kitAnyD (kt : Kit) (t : TC) : List D → Option Bool
  | [] => some false
  | d :: r => match ccD d with
    | some cc => match kt.lookup (t, cc) with
      | some b => match kitAnyD kt t r with
        | some b' => some (b || b')
        | none => none
      | none => none
    | none => none
def bIsi (kt : Kit) : D → D → Mm D := fun d e G => match tcD G d with
  | some t => match e with
    | .tup [] => none
    | .tup cs => match kitAnyD kt t cs with
      | some b => some (.val (.bl b), G)
      | none => none
    | _ => match ccD e with
      | some cc => match kt.lookup (t, cc) with
        | some b => some (.val (.bl b), G)
        | none => none
      | none => none
  | none => none
theorem lookup_mem {α β : Type} [BEq α] [LawfulBEq α] {l : List (α × β)} {k : α} {b : β} (h : l.lookup k = some b) : (k, b) ∈ l := by
  induction l with
  | nil => cases h
  | cons p l ih =>
    obtain ⟨k', b'⟩ := p
    rw [List.lookup_cons] at h
    split at h
    · rename_i e
      cases h
      rw [eq_of_beq e]
      exact List.mem_cons_self ..
    · exact List.mem_cons_of_mem _ (ih h)
theorem tyx_of {ι : List Addr} {G : Hh} {H : Hp} (sh : SimH g ι G H) {kt : Kit} (ok : KitOk g kt) {d : D} {v : V} (r : RelD g ι H d v) {t : TC} (e : tcD G d = some t) (hu : ∃ cc b, kt.lookup (t, cc) = some b) : TyX g.K H v (tcV g t) := by
  cases r with
  | non => cases e; exact .base .non
  | bl b => cases e; exact .base (.bl b)
  | int i => cases e; exact .base (.int i)
  | str x => cases e; exact .base (.str x)
  | @tup xs a vs ha rs => cases e; exact .base (.tup ha)
  | @kt xs a vs ha rs =>
    cases e
    rcases ha with ⟨o, _, _, h1⟩ | ⟨o, its, n, h1, h2, _⟩
    · exact .fTuple h1
    · exact .kTuple h1 h2
  | @kl xs a vs ha rs =>
    cases e
    rcases ha with ⟨o, h1⟩ | ⟨o, its, n, h1, h2, _⟩
    · exact .base (.frz h1)
    · exact .kList h1 h2
  | @ref m a ha =>
    unfold tcD at e
    dsimp only at e
    cases hm : G[m]? with
    | none => rw [hm] at e; cases e
    | some o =>
      rw [hm] at e
      cases o with
      | lst xs => cases e; obtain ⟨vs, hv, _⟩ := lst_at sh ha hm; exact .base (.lst hv)
      | dK xs => cases e; obtain ⟨vs, hv, _⟩ := dk_at sh ha hm; exact .base (.dK hv)
      | dT xs => cases e; obtain ⟨vs, hv, _⟩ := dt_at sh ha hm; exact .base (.dT hv)
      | dF xs => cases e
      | ins c fs =>
        cases e
        obtain ⟨u, hu', ro⟩ := sh.at_ m _ a hm ha
        cases ro with
        | ins rf =>
          obtain ⟨cc, b, hl⟩ := hu
          have I := ok.ins _ (lookup_mem hl) c rfl
          exact .base (.ins hu' I.cl I.ha I.hn I.htk I.hm)
  | _ => cases e
theorem cls_of {ι : List Addr} {H : Hp} {d : D} {v : V} (r : RelD g ι H d v) {cc : CC} (e : ccD d = some cc) {u : Value} (hu : ccV g cc = some u) : ClsV v u := by
  cases r with
  | ty n => cases e; cases hu; exact .ty n
  | @glb x a h =>
    cases e
    have hu' : g.mg x = some u := hu
    rw [h] at hu'
    cases hu'
    exact .own a
  | _ => cases e
theorem b_isi {kt : Kit} (ok : KitOk g kt) : BltOk g (.builtin "isinstance") (d2 (bIsi kt)) := ⟨fun c X i hh => ⟨_, call_isi.or call_isiT, pra2 fun W σ ι G H d e x y Q sh rx ry q => by
  rw [i.K]
  unfold bIsi at q
  cases h1 : tcD G d with
  | none => rw [h1] at q; exact q.no
  | some t =>
    rw [h1] at q
    dsimp only at q
    have one : (match ccD e with
      | some cc => match kt.lookup (t, cc) with
        | some b => some ((.val (.bl b) : Rs D), G)
        | none => none
      | none => none) = (match ccD e with
      | some cc => match kt.lookup (t, cc) with
        | some b => some ((.val (.bl b) : Rs D), G)
        | none => none
      | none => none) → Gv g W σ ι H (match ccD e with
      | some cc => match kt.lookup (t, cc) with
        | some b => some (.val (.bl b), G)
        | none => none
      | none => none) (fun z ι' _ H' => ∀ v, RelD g ι' H' z v → Q v H') → rIsi g.K [x, y] H Q := fun _ q => by
      cases h2 : ccD e with
      | none => rw [h2] at q; exact q.no
      | some cc =>
        rw [h2] at q
        dsimp only at q
        cases h3 : kt.lookup (t, cc) with
        | none => rw [h3] at q; exact q.no
        | some b =>
          rw [h3] at q
          obtain ⟨u, hu, hk⟩ := ok.one _ (lookup_mem h3)
          exact ⟨x, y, _, u, b, rfl, cls_of ry h2 hu, tyx_of sh ok rx h1 ⟨cc, b, h3⟩, hk, q.val (.refl _ _ _) sh _ (.bl b)⟩
    cases e with
    | tup cs =>
      cases ry with
      | @tup _ a vs ha rs =>
        cases cs with
        | nil => exact q.no
        | cons c0 cs =>
        dsimp only at q
        cases h2 : kitAnyD kt t (c0 :: cs) with
        | none => rw [h2] at q; exact q.no
        | some b =>
          rw [h2] at q
          have key : ∀ {cs : List D} {vs : List V} {b : Bool}, RelDs g ι H cs vs → kitAnyD kt t cs = some b → ∃ us, Paired ClsV vs us ∧ PySem.W.kitAny g.K (tcV g t) us = some b := by
            intro cs
            induction cs with
            | nil => intro vs b r e; cases r; cases e; exact ⟨[], .nil, rfl⟩
            | cons c0 cs ih =>
              intro vs b r e
              cases r with
              | @cons _ _ w ws r1 rr =>
                unfold kitAnyD at e
                cases h2 : ccD c0 with
                | none => rw [h2] at e; cases e
                | some cc =>
                  rw [h2] at e
                  dsimp only at e
                  cases h3 : kt.lookup (t, cc) with
                  | none => rw [h3] at e; cases e
                  | some b1 =>
                    rw [h3] at e
                    obtain ⟨u, hu, hk⟩ := ok.one _ (lookup_mem h3)
                    have hk' : PySem.W.kitOne g.K (tcV g t) u = some b1 := hk
                    have c1 := cls_of r1 h2 hu
                    dsimp only at e
                    cases h6 : kitAnyD kt t cs with
                    | none => rw [h6] at e; cases e
                    | some b2 =>
                      rw [h6] at e
                      cases e
                      obtain ⟨us, h4, h5⟩ := ih rr h6
                      refine ⟨u :: us, .cons c1 h4, ?_⟩
                      unfold PySem.W.kitAny
                      rw [hk']
                      cases b1 with
                      | true => rfl
                      | false => exact h5
          obtain ⟨us, h4, h5⟩ := key rs h2
          · refine .inr ⟨x, a, vs, _, us, b, rfl, ha, h4, tyx_of sh ok rx h1 ?_, h5, q.val (.refl _ _ _) sh _ (.bl b)⟩
            unfold kitAnyD at h2
            cases h6 : ccD c0 with
            | none => rw [h6] at h2; cases h2
            | some cc =>
              rw [h6] at h2
              dsimp only at h2
              cases h3 : kt.lookup (t, cc) with
              | none => rw [h3] at h2; cases h2
              | some b1 => exact ⟨cc, b1, h3⟩
    | _ => exact .inl (one rfl q)⟩⟩
end
end FI
set_option maxRecDepth 100000
set_option maxHeartbeats 1000000
namespace FI
open PySem L2 PySem.Spec PyProof.Rows
def leI (x y : Int) : Bool := decide (x ≤ y)
def leT (x y : List Int) : Bool := !SrtO.lexI y x
def sortI (ns : List Int) : List Int := ns.mergeSort leI
def sortT (ns : List (List Int)) : List (List Int) := ns.mergeSort leT
theorem sortI_perm (ns : List Int) : (sortI ns).Perm ns := List.mergeSort_perm _ _
theorem sortT_perm (ns : List (List Int)) : (sortT ns).Perm ns := List.mergeSort_perm _ _
theorem sortI_srt (ns : List Int) : (sortI ns).Pairwise (· ≤ ·) := by
  have h := List.pairwise_mergeSort (le := leI) (fun a b c h1 h2 => by
    have a1 := of_decide_eq_true h1
    have a2 := of_decide_eq_true h2
    exact decide_eq_true (by omega)) (fun a b => by
    unfold leI
    rw [Bool.or_eq_true]
    by_cases e : a ≤ b
    · exact .inl (decide_eq_true e)
    · exact .inr (decide_eq_true (by omega))) ns
  exact h.imp fun h => of_decide_eq_true h
theorem leT_tr (a b c : List Int) (h1 : leT a b = true) (h2 : leT b c = true) : leT a c = true := by
  unfold leT at *
  rw [Bool.not_eq_true'] at *
  exact SrtO.lexI_tr _ _ _ h1 h2
theorem leT_tot (a b : List Int) : (leT a b || leT b a) = true := by
  unfold leT
  rw [Bool.or_eq_true]
  cases h : SrtO.lexI b a with
  | false => exact .inl rfl
  | true => exact .inr (by rw [SrtO.lexI_asym _ _ h]; rfl)
theorem sortT_srt (ns : List (List Int)) : (sortT ns).Pairwise (fun x y => leT x y = true) := List.pairwise_mergeSort (le := leT) leT_tr leT_tot ns
theorem leT_eq (x y : List Int) (h1 : leT x y = true) (h2 : leT y x = true) : x = y := by
  unfold leT at *
  rw [Bool.not_eq_true'] at *
  exact SrtO.lexI_eq _ _ h2 h1
theorem sortI_uniq {ns ms : List Int} (p : ms.Perm ns) (s : ms.Pairwise (· ≤ ·)) : ms = sortI ns :=
  SrtO.srt_uniq (le := (· ≤ ·)) (fun x y h1 h2 => by omega) (p.trans (sortI_perm ns).symm) s (sortI_srt ns)
theorem sortT_uniq {ns ms : List (List Int)} (p : ms.Perm ns) (s : ms.Pairwise (fun x y => leT x y = true)) : ms = sortT ns :=
  SrtO.srt_uniq (le := fun x y => leT x y = true) leT_eq (p.trans (sortT_perm ns).symm) s (sortT_srt ns)
def tupsOf : List D → Option (List (List Int))
  | [] => some []
  | .tup (x :: xs) :: r => match intsOf (x :: xs) with
    | some ns => (tupsOf r).map (ns :: ·)
    | none => none
  | _ :: _ => none
def tupI' (ns : List Int) : D := .tup (ns.map .int)
theorem intsOf_eq : ∀ {xs : List D} {ns : List Int}, intsOf xs = some ns → xs = ns.map .int
  | [], _, e => by cases e; rfl
  | .int i :: xs, ns, e => by
    have e' : (intsOf xs).map (i :: ·) = some ns := e
    obtain ⟨ms, h1, rfl⟩ := Option.map_eq_some_iff.mp e'
    rw [intsOf_eq h1]
    rfl
  | .non :: _, _, e => by cases e
  | .bl _ :: _, _, e => by cases e
  | .str _ :: _, _, e => by cases e
  | .tup _ :: _, _, e => by cases e
  | .kt _ :: _, _, e => by cases e
  | .kl _ :: _, _, e => by cases e
  | .ref _ :: _, _, e => by cases e
  | .glb _ :: _, _, e => by cases e
  | .ty _ :: _, _, e => by cases e
theorem intsOf_map (ns : List Int) : intsOf (ns.map .int) = some ns := by
  induction ns with
  | nil => rfl
  | cons n ns ih => show (intsOf (ns.map .int)).map (n :: ·) = _; rw [ih]; rfl
def lstD (G : Hh) : D → Option (List D)
  | .kl xs => some xs
  | .ref n => match G[n]? with
    | some (.lst xs) => some xs
    | _ => none
  | _ => none
def bSortL : D → Mm D := fun d G => match lstD G d with
  | some xs => match intsOf xs with
    | some ns => some (.val (.ref G.length), G ++ [.lst ((sortI ns).map .int)])
    | none => match tupsOf xs with
      | some nss => some (.val (.ref G.length), G ++ [.lst ((sortT nss).map tupI')])
      | none => none
  | none => none
def intKeys (kvs : List (Key × D)) : Option (List Int) := match kvs with
  | [] => some []
  | (.inl i, _) :: r => (intKeys r).map (i :: ·)
  | _ => none
def bSortD : D → Mm D := fun d G => match d with
  | .ref n => match G[n]? with
    | some (.dK kvs) => match intKeys kvs with
      | some ks => if ks.length < 64 then some (.val (.ref G.length), G ++ [.lst ((sortI ks).map .int)]) else none
      | none => none
    | _ => none
  | _ => none
section
variable {g : Gm} {ι : List Addr} {G : Hh} {H : Hp}
theorem lstD_at (sh : SimH g ι G H) {d : D} {v : V} {xs : List D} (r : RelD g ι H d v) (e : lstD G d = some xs) : ∃ a vs, v = .ref a ∧ SqL g.K H a vs ∧ RelDs g ι H xs vs := by
  cases r with
  | @kl ys a vs ha rs => cases e; exact ⟨a, vs, rfl, ha.sq, rs⟩
  | @ref n a ha =>
    unfold lstD at e
    dsimp only at e
    cases hm : G[n]? with
    | none => rw [hm] at e; cases e
    | some o =>
      rw [hm] at e
      cases o with
      | lst ys =>
        cases e
        obtain ⟨vs, hv, rv⟩ := lst_at sh ha hm
        exact ⟨a, vs, rfl, .inl (.inl hv), rv⟩
      | _ => cases e
  | _ => cases e
def vInts : V → List Int
  | .int i => [i]
  | _ => []
def keyV (H : Hp) : V → List Int
  | .ref a => match H a with
    | some (.tup vs) => vs.flatMap vInts
    | _ => []
  | _ => []
theorem flat_ints (ns : List Int) : (ns.map V.int).flatMap vInts = ns := by
  induction ns with
  | nil => rfl
  | cons n ns ih => rw [List.map_cons, List.flatMap_cons, ih]; rfl
theorem tups_at : ∀ {xs : List D} {vs : List V} {nss : List (List Int)}, RelDs g ι H xs vs → tupsOf xs = some nss → vs.map (keyV H) = nss ∧ ∀ v, v ∈ vs → keyV H v ≠ [] ∧ (∃ t, v = V.ref t ∧ H t = some (.tup ((keyV H v).map V.int)))
  | _, _, _, .nil, e => by cases e; exact ⟨rfl, fun v hv => nomatch hv⟩
  | _, _, nss, .cons (d := d) r t, e => by
    cases r with
    | @tup ys a ws ha rs =>
      cases ys with
      | nil => cases e
      | cons y ys =>
        unfold tupsOf at e
        cases h1 : intsOf (y :: ys) with
        | none => rw [h1] at e; cases e
        | some ns =>
          rw [h1] at e
          obtain ⟨mss, h2, rfl⟩ := Option.map_eq_some_iff.mp e
          obtain ⟨h3, h4⟩ := tups_at t h2
          have hw := rel_ints rs h1
          have hk : keyV H (.ref a) = ns := by
            show (match H a with
              | some (.tup vs) => vs.flatMap vInts
              | _ => []) = ns
            rw [ha, hw]
            exact flat_ints ns
          have hne : ns ≠ [] := fun z => by
            subst z
            have := intsOf_eq h1
            cases this
          refine ⟨by rw [List.map_cons, hk, h3], fun v hv => ?_⟩
          rcases List.mem_cons.mp hv with rfl | hv
          · rw [hk]; exact ⟨hne, a, rfl, by rw [ha, hw]⟩
          · exact h4 v hv
    | _ => cases e
theorem rel_of_keys : ∀ {vs : List V}, (∀ v, v ∈ vs → keyV H v ≠ [] ∧ (∃ t, v = V.ref t ∧ H t = some (.tup ((keyV H v).map V.int)))) → RelDs g ι H ((vs.map (keyV H)).map tupI') vs
  | [], _ => .nil
  | v :: vs, h => by
    obtain ⟨h1, t, e, ht⟩ := h v (List.mem_cons_self ..)
    refine .cons ?_ (rel_of_keys fun w hw => h w (List.mem_cons_of_mem _ hw))
    generalize hk : keyV H v = ns at ht
    subst e
    exact .tup ht (RelDs.ints ns)
end
section
variable {g : Gm}
theorem pr_sortL {X : Cx} (hK : X.K = g.K) : PrA g (fun xs H Q => rSortedI X.K xs H Q ∨ rSortedTI X.K xs H Q) (d1 bSortL) := pra1 fun W σ ι G H d x Q sh rx q => by
  rw [hK]
  unfold bSortL at q
  cases h1 : lstD G d with
  | none => rw [h1] at q; exact q.no
  | some xs =>
    rw [h1] at q
    dsimp only at q
    obtain ⟨a, vs, rfl, hs, rs⟩ := lstD_at sh rx h1
    cases h2 : intsOf xs with
    | some ns =>
      rw [h2] at q
      refine .inl ⟨a, ns, rfl, by rw [← rel_ints rs h2]; exact hs, fun ns' p hp hs' hn => ?_⟩
      rw [sortI_uniq hp hs']
      obtain ⟨st, sm, rd⟩ := new_lst sh hn (RelDs.ints (g := g) (ι := ι) (H := H) (sortI ns))
      exact q.val st sm _ rd
    | none =>
      rw [h2] at q
      dsimp only at q
      cases h3 : tupsOf xs with
      | none => rw [h3] at q; exact q.no
      | some nss =>
        rw [h3] at q
        obtain ⟨k1, k2⟩ := tups_at rs h3
        refine .inr ⟨a, vs, keyV H, rfl, hs, k2, fun ys p hsr hp hn => ?_⟩
        have e : ys.map (keyV H) = sortT nss := by
          refine sortT_uniq ?_ ?_
          · rw [← k1]; exact hp.map _
          · rw [List.pairwise_map]
            refine hsr.imp fun {x y} h => ?_
            unfold leT
            rw [show SrtO.lexI (keyV H y) (keyV H x) = false from h]
            rfl
        have hr : RelDs g ι H ((sortT nss).map tupI') ys := by
          rw [← e]
          exact rel_of_keys fun v hv => k2 v (hp.mem_iff.mp hv)
        obtain ⟨st, sm, rd⟩ := new_lst sh hn hr
        exact q.val st sm _ rd
theorem intKeys_at {ι : List Addr} {H : Hp} {kvs : List (Key × D)} {vs : List (Key × V)} (r : RelKv g ι H kvs vs) : ∀ {ks : List Int}, intKeys kvs = some ks → vs.map (·.1) = ks.map Sum.inl := by
  induction r with
  | nil => intro ks e; cases e; rfl
  | @cons k d v r q a _ ih =>
    intro ks e
    cases k with
    | inl i =>
      have e' : (intKeys r).map (i :: ·) = some ks := e
      obtain ⟨ms, h1, rfl⟩ := Option.map_eq_some_iff.mp e'
      rw [List.map_cons, List.map_cons, ih h1]
    | inr s => cases e
theorem b_sorted : BltOk g (.builtin "sorted") (h := true) (fun ds G => match d1 bSortL ds G with
  | some z => some z
  | none => d1 bSortD ds G) := BltOk.or (q := false) (q' := true) ⟨fun c X i hh => ⟨_, cr_sortedI.or cr_sortedTI, pr_sortL i.K⟩⟩ ⟨fun c X i hh => ⟨_, call_sortedDI (i.calm (hh rfl)), pra1 fun W σ ι G H d x Q sh rx q => by
  cases rx with
  | @ref n a ha =>
    unfold bSortD at q
    dsimp only at q
    cases hm : G[n]? with
    | none => rw [hm] at q; exact q.no
    | some o =>
      rw [hm] at q
      cases o with
      | dK kvs =>
        obtain ⟨vs, hv, rs⟩ := dk_at sh ha hm
        dsimp only at q
        cases h2 : intKeys kvs with
        | none => rw [h2] at q; exact q.no
        | some ks =>
          rw [h2] at q
          dsimp only at q
          by_cases hl : ks.length < 64
          · rw [if_pos hl] at q
            refine ⟨a, vs, ks, rfl, .inl hv, intKeys_at rs h2, hl, fun ys p hp hs' hn => ?_⟩
            rw [sortI_uniq hp hs']
            obtain ⟨st, sm, rd⟩ := new_lst sh hn (RelDs.ints (g := g) (ι := ι) (H := H) (sortI ks))
            exact q.val st sm _ rd
          · rw [if_neg hl] at q; exact q.no
      | _ => exact q.no
  | _ => exact q.no⟩⟩
end
def isLst (G : Hh) : D → Bool
  | .ref n => match G[n]? with
    | some (.lst _) => true
    | _ => false
  | _ => false
structure MtdOk (g : Gm) (id : String) (F : D → List D → Mm D) : Prop where
  run : ∀ c X, XIs g c X → ∃ r, MtR X id r ∧ ∀ (W : WX) (σ : L2.St) (ι : List Addr) (G : Hh) (H : Hp) (d : D) (x : V) (ds : List D) (xs : List V) (Q : VK), SimH g ι G H → RelD g ι H d x → RelDs g ι H ds xs →
    Gv g W σ ι H (F d ds G) (fun z ι' _ H' => ∀ v, RelD g ι' H' z v → Q v H') → r x xs H Q
def eMtL (F : D → List D → Mm D) (fo : SE) (fa : SA) : SE := fun gs G => bnd (fo gs G) fun d G1 => if isLst G1 d = true then bnd (fa gs G1) fun ds => F d ds else none
section
variable {g : Gm} {c : Sc} {o e : Expr} {es : List Expr} {fo : SE} {fa : SA} {apos cpos : Pos} {name : Str} {id : String} {F : D → List D → Mm D}
theorem isLst_ty {ι : List Addr} {G : Hh} {H : Hp} (sh : SimH g ι G H) {d : D} {v : V} (r : RelD g ι H d v) (e : isLst G d = true) : tyV g.K "list" v H := by
  cases r with
  | @ref n a ha =>
    unfold isLst at e
    dsimp only at e
    cases hm : G[n]? with
    | none => rw [hm] at e; cases e
    | some o =>
      rw [hm] at e
      cases o with
      | lst xs => obtain ⟨vs, hv, _⟩ := lst_at sh ha hm; exact .inl ⟨rfl, vs, .inl (.inl hv)⟩
      | _ => cases e
  | _ => cases e
theorem fe_mtL (hm : MtdOk g id F) (ho : FE g c o fo) (ha : FA g c (e :: es) fa) (slot : PySem.Slot "list" name id) (hty : typeOf (.builtin id) = pure (.type "method_descriptor")) (hb : ∀ env, attributeBase o name env (eval o env) = eval o env := by intro _; rfl)
    (hfew : ∀ env, ((backTo cpos (starEach (e :: es) env)).all (fun x => !x.1) && (backToKw cpos (keywordEach [] env)).all (fun x => x.1.isSome)
      && decide ((e :: es).length + ([] : List Keyword).length + (if ([] : List Keyword).isEmpty then 0 else 1) < 30)) = true := by intro _; rfl)
    (hline : (apos.endLine == cpos.line) = true := by rfl) (hs : ∀ env, starEach (e :: es) env = (false, eval e env) :: starEach es env := by intro _; rfl) (hpl : ∀ env, (backTo cpos (starEach es env)).any (·.1) = false := by intro _; rfl) :
    FE g c (.Call (.Attribute o name apos) (e :: es) [] cpos) (eMtL F fo fa) := ⟨fun X i W t => by
  obtain ⟨r, hr, pr⟩ := hm.run c X i
  refine pe_imp (pe_bm PySem.F.plainAttrs_list slot hty hr (ho.run X i W t) (ha.run X i W t) (hb _) (hfew _) hline (hs _) (hpl _)) fun σ H Q ⟨ι, gs, G, ss, sh, h⟩ => ⟨ι, gs, G, ss, sh, h.bnd.imp fun d ι1 G1 H1 s1 t1 h1 v rv => ?_⟩
  by_cases hl : isLst G1 d = true
  · rw [if_pos hl] at h1
    rw [i.K]
    exact ⟨isLst_ty t1 rv hl, ι1, gs, G1, ss.mono s1, t1, h1.bnd.imp fun ds ι2 G2 H2 s2 t2 h2 vs rs => pr W σ ι2 G2 H2 d v ds vs Q t2 (rv.mono s2) rs h2⟩
  · rw [if_neg hl] at h1; exact h1.no⟩
theorem fe_mtL0 (hm : MtdOk g id F) (ho : FE g c o fo) (slot : PySem.Slot "list" name id) (hty : typeOf (.builtin id) = pure (.type "method_descriptor")) (hb : ∀ env, attributeBase o name env (eval o env) = eval o env := by intro _; rfl)
    (hline : (apos.endLine == cpos.line) = true := by rfl) : FE g c (.Call (.Attribute o name apos) [] [] cpos) (eMtL F fo aNil) := ⟨fun X i W t => by
  obtain ⟨r, hr, pr⟩ := hm.run c X i
  refine pe_imp (pe_bm0 PySem.F.plainAttrs_list slot hty hr (ho.run X i W t) (hb _) hline) fun σ H Q ⟨ι, gs, G, ss, sh, h⟩ => ⟨ι, gs, G, ss, sh, h.bnd.imp fun d ι1 G1 H1 s1 t1 h1 v rv => ?_⟩
  by_cases hl : isLst G1 d = true
  · rw [if_pos hl] at h1
    rw [i.K]
    refine ⟨isLst_ty t1 rv hl, pr W σ ι1 G1 H1 d v [] [] Q t1 rv .nil ?_⟩
    exact h1
  · rw [if_neg hl] at h1; exact h1.no⟩
def mLst (f : List D → List D → Option (List D × D)) : D → List D → Mm D := fun d ds G => match d with
  | .ref n => match G[n]? with
    | some (.lst xs) => match f xs ds with
      | some (ys, z) => some (.val z, G.set n (.lst ys))
      | none => none
    | _ => none
  | _ => none
def fAppend : List D → List D → Option (List D × D) := fun xs ds => match ds with
  | [d] => if xs.length < 100000 then some (xs ++ [d], .non) else none
  | _ => none
def fPop : List D → List D → Option (List D × D) := fun xs ds => match ds with
  | [] => match xs[xs.length - 1]? with
    | some y => some (xs.dropLast, y)
    | none => none
  | [.int i] => if okR i = true then (match ixN xs.length i with
    | some k => match xs[k]? with
      | some y => some (xs.eraseIdx k, y)
      | none => none
    | none => none) else none
  | _ => none
theorem RelDs.dropLast {ι : List Addr} {H : Hp} {xs : List D} {vs : List V} (r : RelDs g ι H xs vs) : RelDs g ι H xs.dropLast vs.dropLast := by
  rw [List.dropLast_eq_take, List.dropLast_eq_take, r.length]
  exact r.take _
theorem RelDs.erase {ι : List Addr} {H : Hp} : ∀ {xs : List D} {vs : List V} (k : Nat), RelDs g ι H xs vs → RelDs g ι H (xs.eraseIdx k) (vs.eraseIdx k)
  | _, _, _, .nil => .nil
  | _, _, 0, .cons _ t => t
  | _, _, k + 1, .cons r t => .cons r (RelDs.erase k t)
theorem m_append : MtdOk g "list.append" (mLst fAppend) := ⟨fun c X i => ⟨_, mt_append, fun W σ ι G H d x ds xs Q sh rx rs q => by
  cases rx with
  | @ref n a ha =>
    unfold mLst at q
    dsimp only at q
    cases hm : G[n]? with
    | none => rw [hm] at q; exact q.no
    | some o =>
      rw [hm] at q
      cases o with
      | lst ys =>
        obtain ⟨vs, hv, rv⟩ := lst_at sh ha hm
        dsimp only at q
        unfold fAppend at q
        split at q
        · rename_i zs z e
          split at e
          · rename_i d0
            by_cases hl : ys.length < 100000
            · rw [if_pos hl] at e
              cases e
              obtain ⟨w, rfl, rw'⟩ := rels1 rs rfl
              obtain ⟨sm, st⟩ := sh.write (o := .lst (ys ++ [d0])) ha hv ⟨(fun _ z => by cases z), (fun _ _ z => by cases z), (fun _ z => by cases z)⟩ (.lst (rv.append (.one rw')))
              exact ⟨a, vs, w, rfl, rfl, hv, by rw [← rv.length]; exact line_lt hl, q.val st sm _ .non⟩
            · rw [if_neg hl] at e; cases e
          · cases e
        · exact q.no
      | _ => exact q.no
  | _ => exact q.no⟩⟩
theorem m_pop : MtdOk g "list.pop" (mLst fPop) := ⟨fun c X i => ⟨_, (show MtR X "list.pop" rPop from mt_pop).or (show MtR X "list.pop" rPopAt from mt_popAt), fun W σ ι G H d x ds xs Q sh rx rs q => by
  cases rx with
  | @ref n a ha =>
    unfold mLst at q
    dsimp only at q
    cases hm : G[n]? with
    | none => rw [hm] at q; exact q.no
    | some o =>
      rw [hm] at q
      cases o with
      | lst ys =>
        obtain ⟨vs, hv, rv⟩ := lst_at sh ha hm
        dsimp only at q
        cases hf : fPop ys ds with
        | none => rw [hf] at q; exact q.no
        | some p =>
          obtain ⟨zs, z⟩ := p
          rw [hf] at q
          dsimp only at q
          unfold fPop at hf
          split at hf
          · cases rs
            cases hy : ys[ys.length - 1]? with
            | none => rw [hy] at hf; cases hf
            | some y =>
              rw [hy] at hf
              cases hf
              obtain ⟨v, hv2, rv2⟩ := rv.get hy
              obtain ⟨sm, st⟩ := sh.write (o := .lst ys.dropLast) ha hv ⟨(fun _ z => by cases z), (fun _ _ z => by cases z), (fun _ z => by cases z)⟩ (.lst rv.dropLast)
              exact .inl ⟨a, vs, v, rfl, rfl, hv, by rw [← rv.length]; exact hv2, q.val st sm _ (rv2.mono st)⟩
          · rename_i k
            obtain ⟨w, rfl, rw'⟩ := rels1 rs rfl
            cases rw'
            by_cases hk : okR k = true
            · rw [if_pos hk] at hf
              have hk2 := of_decide_eq_true hk
              cases hj : ixN ys.length k with
              | none => rw [hj] at hf; cases hf
              | some j =>
                rw [hj] at hf
                dsimp only at hf
                cases hy : ys[j]? with
                | none => rw [hy] at hf; cases hf
                | some y =>
                  rw [hy] at hf
                  cases hf
                  obtain ⟨v, hv2, rv2⟩ := rv.get hy
                  obtain ⟨sm, st⟩ := sh.write (o := .lst (ys.eraseIdx j)) ha hv ⟨(fun _ z => by cases z), (fun _ _ z => by cases z), (fun _ z => by cases z)⟩ (.lst (rv.erase j))
                  have h1 := (ixN_seq hj).1
                  exact .inr ⟨a, vs, k, j, v, rfl, rfl, hv, by omega, by omega, by rw [← rv.length]; exact h1, hv2, q.val st sm _ (rv2.mono st)⟩
            · rw [if_neg hk] at hf; cases hf
          · cases hf
      | _ => exact q.no
  | _ => exact q.no⟩⟩
end
def dNewT : SE := fun _ G => some (.val (.ref G.length), G ++ [.dT []])
section
variable {g : Gm} {c : Sc} {pos : Pos}
theorem fe_newT : FE g c (.Dict [] [] pos) dNewT := ⟨fun X i W t => pe_imp pe_dnewT fun σ H Q ⟨ι, gs, G, ss, sh, h⟩ p hp => by
  obtain ⟨sm, st⟩ := sh.alloc hp (.dT .nil : RelO g ι H (.dT []) (.dT []))
  exact h.val st sm _ (.ref (simLast sh p))⟩
end
end FI
set_option maxRecDepth 100000
set_option maxHeartbeats 2000000
namespace L2
open PySem PySem.Spec PyProof.Rows
abbrev clsN : Str := "__class__"
structure InCF (kindOf : Str → Option NameKind) (s₀ : Shared) (L : Addr) (m : Str → Option Value) (cs : List (Str × Addr)) (cm : Str → Option Value) (s : Shared) : Prop where
  toInCall : InCall s₀ L m s
  cell : ∀ n c, cs.lookup n = some c → s.heap.IsCell c (cm n)
  inj : ∀ x y c, cs.lookup x = some c → cs.lookup y = some c → x = y
  ne : ∀ n c, cs.lookup n = some c → L ≠ c
  new : ∀ n c, cs.lookup n = some c → kindOf n = some .cell → L < c
section
variable {M : Model} {A : Around} {E : Value → Shared → Prop} {s₀ s : Shared} {m cm : Str → Option Value} {env : Env}
theorem InCF.stL {n : Str} {v : Value} {Q : Unit → Shared → Prop} (x : InCF env.kindOf s₀ env.locals m env.cells cm s) (hk : env.scope.kind = .function) (hl : env.kindOf n = some .local)
    (h : ∀ s', InCF env.kindOf s₀ env.locals (fun y => if y = n then some v else m y) env.cells cm s' → Q () s') : wpAny M A (storeName env n v) Q E s := by
  refine wpAny_storeName_local hl x.toInCall.ns (fun h' hn' hs' => h _ ⟨⟨?_, hn', fun b o e => ?_, x.toInCall.fresh⟩, fun k c hc => ?_, x.inj, x.ne, x.new⟩) (by rw [hk]; rfl)
  · obtain ⟨h₁, tk, rfl⟩ := x.toInCall.same
    exact ⟨h', _, rfl⟩
  · exact hs'.extBut b o (Nat.ne_of_lt (Nat.lt_of_lt_of_le (Heap.lt_size e) x.toInCall.fresh)) (x.toInCall.keep b o e)
  · exact (x.cell k c hc).sameBut hs' (fun z => x.ne k c hc z.symm)
theorem InCF.stC {n : Str} {c : Addr} {v : Value} {Q : Unit → Shared → Prop} (x : InCF env.kindOf s₀ env.locals m env.cells cm s) (hk : env.scope.kind = .function) (hl : env.kindOf n = some .cell)
    (hc : env.cells.lookup n = some c)
    (h : ∀ s', InCF env.kindOf s₀ env.locals m env.cells (fun y => if y = n then some v else cm y) s' → Q () s') : wpAny M A (storeName env n v) Q E s := by
  have hLc := x.new n c hc hl
  refine wpAny_storeName_cell hk hl hc (x.cell n c hc) fun h' hc' hs' => h _ ⟨⟨?_, x.toInCall.ns.sameBut hs' (Nat.ne_of_lt hLc), fun b o e => ?_, x.toInCall.fresh⟩, fun k c' hk' => ?_, x.inj, x.ne, x.new⟩
  · obtain ⟨h₁, tk, rfl⟩ := x.toInCall.same
    exact ⟨h', _, rfl⟩
  · exact hs'.extBut b o (Nat.ne_of_lt (Nat.lt_trans (Nat.lt_of_lt_of_le (Heap.lt_size e) x.toInCall.fresh) hLc)) (x.toInCall.keep b o e)
  · by_cases hkn : k = n
    · subst hkn
      rw [hc] at hk'; cases hk'
      simpa using hc'
    · rw [if_neg hkn]
      exact (x.cell k c' hk').sameBut hs' fun e => hkn (x.inj k n c' hk' (e ▸ hc))
theorem InCF.params (f : Str × Value → PUnit → Sem (ForInStep PUnit)) (hf : ∀ n v u, f (n, v) u = (do storeName env n v; pure (.yield ⟨⟩))) (hk : env.scope.kind = .function) :
    ∀ (binds : List (Str × Value)) (m cm : Str → Option Value) (s : Shared) (Q : PUnit → Shared → Prop), InCF env.kindOf s₀ env.locals m env.cells cm s →
      (∀ x ∈ binds, env.kindOf x.1 = some .local ∨ (env.kindOf x.1 = some .cell ∧ (env.cells.lookup x.1).isSome = true)) →
      (∀ s', InCF env.kindOf s₀ env.locals (bindL env.kindOf binds m) env.cells (bindC env.kindOf binds cm) s' → Q ⟨⟩ s') → wpAny M A (forIn binds ⟨⟩ f) Q E s
  | [], m, cm, s, Q, x, _, h => by rw [List.forIn_nil]; exact wpAny_pure (h s x)
  | (n, v) :: r, m, cm, s, Q, x, hkind, h => by
    rw [List.forIn_cons, hf]
    have hr : ∀ y ∈ r, env.kindOf y.1 = some .local ∨ (env.kindOf y.1 = some .cell ∧ (env.cells.lookup y.1).isSome = true) := fun y hy => hkind y (List.mem_cons_of_mem _ hy)
    rcases hkind (n, v) List.mem_cons_self with hl | ⟨hl, hc⟩
    · refine wpAny_bind (wpAny_bind (x.stL hk hl fun s' x' => wpAny_pure (InCF.params f hf hk r _ _ s' Q x' hr fun s'' x'' => h s'' ?_)))
      unfold bindL bindC; rw [if_pos hl, if_pos hl]; exact x''
    · obtain ⟨c, hc⟩ := Option.isSome_iff_exists.mp hc
      have hnl : ¬ env.kindOf n = some .local := by rw [hl]; decide
      refine wpAny_bind (wpAny_bind (x.stC hk hl hc fun s' x' => wpAny_pure (InCF.params f hf hk r _ _ s' Q x' hr fun s'' x'' => h s'' ?_)))
      unfold bindL bindC; rw [if_neg hnl, if_neg hnl]; exact x''
end
abbrev clC (cc : Addr) : List (Str × Addr) := [(clsN, cc)]
def cellsX (scope : Scope) (cc L : Addr) : List (Str × Addr) := cellsFrom (L + 1) scope.names (clC cc)
theorem cellsFrom_app : ∀ (names : List (Str × NameKind)) (n : Nat) (acc tl : List (Str × Addr)), cellsFrom n names (acc ++ tl) = cellsFrom n names acc ++ tl
  | [], _, _, _ => rfl
  | (x, k) :: r, n, acc, tl => by
    unfold cellsFrom
    split
    · exact cellsFrom_app r (n + 1) ((x, n) :: acc) tl
    · exact cellsFrom_app r n acc tl
theorem cellsX_eq (scope : Scope) (cc L : Addr) : cellsX scope cc L = cellsFrom (L + 1) scope.names [] ++ clC cc := cellsFrom_app scope.names (L + 1) [] (clC cc)
theorem cellsFrom_dom : ∀ (names : List (Str × NameKind)) (n : Nat) (acc : List (Str × Addr)) (x : Str) (c : Addr), (x, c) ∈ cellsFrom n names acc → (x, c) ∈ acc ∨ (x, NameKind.cell) ∈ names
  | [], _, _, _, _, h => .inl h
  | (y, k) :: r, n, acc, x, c, h => by
    unfold cellsFrom at h
    split at h
    · rename_i hk
      rcases cellsFrom_dom r (n + 1) ((y, n) :: acc) x c h with q | q
      · rcases List.mem_cons.mp q with e | q
        · cases e
          have : k = NameKind.cell := by simpa using hk
          subst this
          exact .inr (List.mem_cons_self ..)
        · exact .inl q
      · exact .inr (List.mem_cons_of_mem _ q)
    · rcases cellsFrom_dom r n acc x c h with q | q
      · exact .inl q
      · exact .inr (List.mem_cons_of_mem _ q)
theorem look_app {α : Type} : ∀ {l m : List (Str × α)} {x : Str} {c : α}, (l ++ m).lookup x = some c → l.lookup x = some c ∨ (l.lookup x = none ∧ m.lookup x = some c) := fun {l m x c} h => by
  rw [List.lookup_append] at h
  cases e : l.lookup x with
  | none => rw [e] at h; exact .inr ⟨rfl, h⟩
  | some a => rw [e] at h; exact .inl h
structure SupScope (N P : List Str) (sc : Scope) : Prop where
  kind : sc.kind = .function
  co : sc.isCoroutine = false
  gen : sc.isGenerator = false
  nd : N.Nodup
  pre : N.take P.length = P
  par : ∀ x ∈ P, sc.names.lookup x = some .local ∨ sc.names.lookup x = some .cell
  free : ∀ y ∈ sc.names, y.2 = .free → y.1 = clsN
  cls : sc.names.lookup clsN = some .free
  ncl : (clsN, NameKind.cell) ∉ sc.names
abbrev envS (qual : Str) (scope : Scope) (L f : Addr) (cd : Value) (cc : Addr) : Env := PySem.W.envX qual scope L f cd (cellsX scope cc L)
theorem InCF.env {M : Model} {A : Around} {E : Value → Shared → Prop} {s : Shared} {N P : List Str} {scope : Scope} {cc : Addr} {binds : List (Str × Value)} {qual : Str} {f : Addr} {code : Value} {Q : Env → Shared → Prop} (S : SupScope N P scope)
    (hcc : ∃ v, s.heap.IsCell cc v)
    (hkind : ∀ x ∈ binds, scope.names.lookup x.1 = some .local ∨ scope.names.lookup x.1 = some .cell)
    (hQ : ∀ s' cm, InCF (envS qual scope s.heap.objs.size f code cc).kindOf s s.heap.objs.size (bindL (envS qual scope s.heap.objs.size f code cc).kindOf binds fun _ => none) (cellsX scope cc s.heap.objs.size) (bindC (envS qual scope s.heap.objs.size f code cc).kindOf binds cm) s' → Q (envS qual scope s.heap.objs.size f code cc) s') :
    wpAny M A (newFunctionEnv scope mainGlobals (clC cc) binds (qual ++ ".<locals>.") (some f) code none builtinsNs) Q E s := by
  simp only [newFunctionEnv, Option.isSome_none, Bool.false_eq_true, if_false]
  refine wpAny_bind (wpAny_alloc ?_)
  refine wpAny_bind (wpAny_layCells _ (fun name kind cells => by cases hkc : kind == NameKind.cell <;> simp [hkc]) _ _ _ _ ?_)
  have ok := cellsFrom_ok scope.names (s.heap.push { cls := .type "frame", data := .dict #[] }) (s.heap.objs.size + 1) [] ⟨fun _ _ hm => (nomatch hm), List.Pairwise.nil⟩ (by rw [Heap.size_push]; exact Nat.le_refl _)
  rw [Heap.size_push] at ok
  rw [show ({ s with heap := s.heap.push { cls := .type "frame", data := .dict #[] } } : Shared).heap.objs.size = s.heap.objs.size + 1 from Heap.size_push ..]
  obtain ⟨v, hv⟩ := hcc
  have lt := hv.lt
  have kp : ∀ b o, s.heap.get? b = some o → (pushCells (s.heap.push { cls := .type "frame", data := .dict #[] }) scope.names).get? b = some o := fun b o e => pushCells_keeps _ _ b o (Heap.get?_push_of_some _ e)
  have noC : (cellsFrom (s.heap.objs.size + 1) scope.names []).lookup clsN = none := by
    cases e : (cellsFrom (s.heap.objs.size + 1) scope.names []).lookup clsN with
    | none => rfl
    | some c =>
      rcases cellsFrom_dom _ _ _ _ _ (mem_of_lookup e) with q | q
      · cases q
      · exact absurd q S.ncl
  have two : ∀ {n : Str} {c : Addr}, (cellsX scope cc s.heap.objs.size).lookup n = some c → ((cellsFrom (s.heap.objs.size + 1) scope.names []).lookup n = some c ∧ s.heap.objs.size < c ∧ n ≠ clsN) ∨ (n = clsN ∧ c = cc) := fun {n c} h => by
    rw [cellsX_eq] at h
    rcases look_app h with q | ⟨_, q⟩
    · exact .inl ⟨q, (ok.empty n c (mem_of_lookup q)).2, fun e => by rw [e, noC] at q; cases q⟩
    · have m := mem_of_lookup q
      rcases List.mem_cons.mp m with e | m
      · cases e; exact .inr ⟨rfl, rfl⟩
      · cases m
  refine wpAny_bind (InCF.params (s₀ := s) (env := envS qual scope s.heap.objs.size f code cc)
    _ (fun _ _ _ => rfl) S.kind binds (fun _ => none) (fun n => if n = clsN then v else none) _ _
    ⟨⟨⟨_, _, rfl⟩, (Heap.Ns.new s.heap (.type "frame")).keeps (pushCells_keeps _ _), kp, Nat.le_refl _⟩,
      fun n c hc => ?_, fun x y c h1 h2 => ?_, fun n c h => ?_, fun n c h hk => ?_⟩
    (fun x hx => ?_) fun s' x => wpAny_pure (hQ s' _ x))
  · rcases two hc with ⟨q, _, ne⟩ | ⟨rfl, rfl⟩
    · rw [if_neg ne]
      exact (ok.empty n c (mem_of_lookup q)).1
    · rw [if_pos rfl]
      obtain ⟨o, ho, hd⟩ := hv
      exact ⟨o, kp _ _ ho, hd⟩
  · rcases two h1 with ⟨q1, l1, n1⟩ | ⟨e1, e1'⟩
    · rcases two h2 with ⟨q2, l2, n2⟩ | ⟨e2, e2'⟩
      · exact name_of_addr ok.apart (mem_of_lookup q1) (mem_of_lookup q2)
      · subst e2'; exact absurd (Nat.lt_trans lt l1) (Nat.lt_irrefl _)
    · rcases two h2 with ⟨q2, l2, n2⟩ | ⟨e2, e2'⟩
      · subst e1'; exact absurd (Nat.lt_trans lt l2) (Nat.lt_irrefl _)
      · exact e1.trans e2.symm
  · rcases two h with ⟨_, l, _⟩ | ⟨_, rfl⟩
    · exact Nat.ne_of_lt l
    · exact Nat.ne_of_gt lt
  · rcases two h with ⟨_, l, _⟩ | ⟨e, _⟩
    · exact l
    · subst e
      have hk' : scope.names.lookup clsN = some .cell := hk
      rw [S.cls] at hk'
      cases hk'
  · rcases hkind x hx with q | q
    · exact .inl q
    · refine .inr ⟨q, ?_⟩
      show ((cellsX scope cc s.heap.objs.size).lookup x.1).isSome = true
      rw [cellsX_eq, List.lookup_append]
      obtain ⟨c, hc⟩ := cell_has (n := s.heap.objs.size + 1) q
      rw [hc]
      rfl
def scx (CX : CXT) (P : Program) (w : World) (K : PySem.W.Frag) (mg : Str → Option Value) (base : Heap) (N : List Str) (qual : Str) (scope : Scope) (f : Addr) (cd : Value) (cc : Addr) (A : Around) (outer : List Env) (s : Shared) (H : Hp) (E : XK) : Cx where
  prog := P
  w := w
  K := K
  mg := mg
  base := base
  A := A.deeper (envS qual scope s.heap.objs.size f cd cc)
  N := N
  s_0 := s
  H_0 := H
  env := envS qual scope s.heap.objs.size f cd cc
  outer := outer
  stack := envS qual scope s.heap.objs.size f cd cc :: outer
  ex := []
  calm := true
  fn := fun x => x != clsN
  pn := []
  xe := fun e s' => wpAny (model P w) (A.deeper (envS qual scope s.heap.objs.size f cd cc)) (leaving (envS qual scope s.heap.objs.size f cd cc) e) (fun _ s'' => CX outer H s E e s'') (fun e' s'' => CX outer H s E e' s'') s'
theorem inv_startS {CX : CXT} {P : Program} {w : World} {K : PySem.W.Frag} {mg : Str → Option Value} {base : Heap} {N ps : List Str} {qual : Str} {scope : Scope} {f cc : Addr} {cd : Value} {A : Around} {outer : List Env} {s s1 : Shared} {H : Hp} {E : XK} {us : List Value} {vs : List V} {cm : Str → Option Value}
    (S : SupScope N ps scope) (hd : A.handled = none) (e0 : Env0 P w K mg base A outer s H) (hl : vs.length = ps.length) (r : Vals vs us) (hcc : H cc = none) (hlt : cc < s.heap.objs.size)
    (x : InCF (envS qual scope s.heap.objs.size f cd cc).kindOf s s.heap.objs.size (bindL (envS qual scope s.heap.objs.size f cd cc).kindOf (ps.zip us) fun _ => none) (cellsX scope cc s.heap.objs.size) (bindC (envS qual scope s.heap.objs.size f cd cc).kindOf (ps.zip us) cm) s1) :
    Inv (scx CX P w K mg base N qual scope f cd cc A outer s H E) [] (start N vs) H s1 := by
  have hpl : ps.length ≤ N.length := by have := congrArg List.length S.pre; rw [List.length_take] at this; omega
  obtain ⟨h1, tk, rfl, hk⟩ := x.toInCall.done
  have noA : ∀ b : Addr, b ∉ (scx CX P w K mg base N qual scope f cd cc A outer s H E).ex := fun b z => absurd (show b ∈ ([] : List Addr) from z) (by simp)
  have hnone : ∀ y c, (cellsX scope cc s.heap.objs.size).lookup y = some c → H c = none := fun y c h => by
    rw [cellsX_eq] at h
    rcases look_app h with q | ⟨_, q⟩
    · have ok := cellsFrom_ok scope.names (s.heap.push { cls := .type "frame", data := .dict #[] }) (s.heap.objs.size + 1) [] ⟨fun _ _ hm => (nomatch hm), List.Pairwise.nil⟩ (by rw [Heap.size_push]; exact Nat.le_refl _)
      rw [Heap.size_push] at ok
      exact e0.hok.fresh (Nat.le_of_succ_le (ok.empty y c (mem_of_lookup q)).2)
    · rcases List.mem_cons.mp (mem_of_lookup q) with e | m
      · cases e; exact hcc
      · cases m
  refine ⟨⟨e0.mod, S.kind, rfl, rfl, Nat.le_refl _, fun y z c h1 h2 => x.inj y z c h1 h2, fun y hy => ?_, fun y c h2 h1 => ?_, fun _ => hd, Around.frames_deeper e0.frames, .inr ⟨rfl, rfl⟩, fun b z => absurd z (noA b), e0.bs, e0.bsz, fun b _ _ => noA b, fun b z => absurd z (noA b), e0.funs, e0.frf⟩,
    rfl, e0.bare, Un.kept hk, ⟨_, x.toInCall.ns, fun i y v h1 h2 h3 => ?_⟩, fun y c h => ⟨_, x.cell y c h⟩, e0.hok.fresh (Nat.le_refl _), fun y c h => hnone y c h, fun p hp => absurd (show p ∈ ([] : List (Addr × Obj)) from hp) (by simp), e0.hok.kept hk, ?_⟩
  · have hy : scope.names.lookup y = some .cell ∨ scope.names.lookup y = some .free := hy
    show ∃ c, (cellsX scope cc s.heap.objs.size).lookup y = some c
    rw [cellsX_eq, List.lookup_append]
    rcases hy with hy | hy
    · obtain ⟨c, hc⟩ := cell_has (n := s.heap.objs.size + 1) hy
      exact ⟨c, by rw [hc]; rfl⟩
    · have e := S.free _ (PySem.mem_of_lookup hy) rfl
      have e' : y = clsN := e
      subst e'
      cases e : (cellsFrom (s.heap.objs.size + 1) scope.names []).lookup clsN with
      | none => exact ⟨cc, rfl⟩
      | some c => exact ⟨c, rfl⟩
  · have h1' : (cellsX scope cc s.heap.objs.size).lookup y = some c := h1
    rw [cellsX_eq] at h1'
    rcases look_app h1' with q | ⟨_, q⟩
    · have ok := cellsFrom_ok scope.names (s.heap.push { cls := .type "frame", data := .dict #[] }) (s.heap.objs.size + 1) [] ⟨fun _ _ hm => (nomatch hm), List.Pairwise.nil⟩ (by rw [Heap.size_push]; exact Nat.le_refl _)
      rw [Heap.size_push] at ok
      exact Nat.le_of_succ_le (ok.empty y c (mem_of_lookup q)).2
    · rcases List.mem_cons.mp (mem_of_lookup q) with e | m
      · cases e
        have z : (clsN != clsN) = true := h2
        rw [bne_self_eq_false] at z
        cases z
      · cases m
  · have hi : i < vs.length := by
      unfold start at h2
      by_cases hi : i < vs.length
      · exact hi
      · rw [List.getElem?_append_right (by simpa using hi)] at h2
        rw [List.getElem?_replicate] at h2
        split at h2 <;> cases h2
    have ha : vs[i]? = some v := by
      unfold start at h2
      rw [List.getElem?_append_left (by simpa using hi), List.getElem?_map] at h2
      cases e : vs[i]? with
      | none => rw [e] at h2; cases h2
      | some a => rw [e] at h2; cases h2; rfl
    obtain ⟨u, hu, rv⟩ := r.get ha
    have hp : ps[i]? = some y := by
      rw [← S.pre, List.getElem?_take_of_lt (by omega)]; exact h1
    have ndP : ps.Nodup := by rw [← S.pre]; exact S.nd.sublist (List.take_sublist _ _)
    refine ⟨u, rv, ?_⟩
    rcases S.par y (List.mem_of_getElem? hp) with k | k
    · exact .inl ⟨k, bindL_get ndP hp hu k⟩
    · obtain ⟨c, e⟩ := cell_has (n := s.heap.objs.size + 1) k
      have e' : (cellsX scope cc s.heap.objs.size).lookup y = some c := by rw [cellsX_eq, List.lookup_append, e]; rfl
      refine .inr ⟨.inl k, c, e', ?_⟩
      have q := x.cell y c e'
      rw [bindC_get ndP hp hu (by show scope.names.lookup y ≠ _; rw [k]; decide)] at q
      exact q
  · unfold start
    show _ = N.length
    rw [List.length_append, List.length_map, List.length_replicate]
    omega
structure PSsAt (X : Cx) (bd body : List Stmt) (t : TS) : Prop where
  run : ∀ (pins : List (Addr × Obj)) (s : Shared) (σ : St) (H : Hp) (D : Ends), Inv X pins σ H s → t D σ H → PySem.wpAt (model X.prog X.w) X.A (.func bd X.env) (execs body X.env) (SP X pins D) X.xe s
structure PSAt (X : Cx) (bd : List Stmt) (st : Stmt) (t : TS) : Prop where
  run : ∀ (pins : List (Addr × Obj)) (s : Shared) (σ : St) (H : Hp) (D : Ends), Inv X pins σ H s → t D σ H → PySem.wpAt (model X.prog X.w) X.A (.func bd X.env) (exec st X.env) (SP X pins D) X.xe s
section
variable {X : Cx} {bd body : List Stmt} {st : Stmt} {rest : List Stmt} {t u : TS}
theorem PSs.at (h : PSs X body t) : PSsAt X bd body t := ⟨fun pins s σ H D I q => wpAt_of_wpAny (h.run pins s σ H D I q)⟩
theorem PS.at (h : PS X st t) : PSAt X bd st t := ⟨fun pins s σ H D I q => wpAt_of_wpAny (h.run pins s σ H D I q)⟩
theorem pssAt_cons (h1 : PSAt X bd st t) (h2 : PSsAt X bd rest u) : PSsAt X bd (st :: rest) (fun D σ H => t { D with nx := u D } σ H) :=
  ⟨fun pins s σ H D I q => PySem.ks_wpAt_execs_cons (PySem.ks_wpAt_mono (h1.run pins s σ H { D with nx := u D } I q) (fun f s' hs => by
    cases f with
    | next => obtain ⟨σ', H', I', q'⟩ := hs; exact h2.run pins s' σ' H' D I' q'
    | ret v => exact hs
    | brk => exact hs
    | cont => exact hs) fun _ _ z => z)⟩
end
end L2
set_option maxRecDepth 100000
set_option maxHeartbeats 2000000
namespace L2
open PySem PySem.Spec PyProof.Rows
def CellK (K : PySem.W.Frag) (cc D : Addr) : Prop := ∃ (cl : Value) (cld : Option Addr) (csl : Array (Option Value)), K.lookup cc = some ⟨cl, cld, .cell (some (.ref D)), csl⟩
structure SupX (X : Cx) (f cda cc : Addr) : Prop where
  ex : ∃ (name qual : Str) (params : Arguments) (body : List Stmt) (scope : Scope) (dV kV doc pm : Value) (an : Option Addr) (ct oc : Value) (od : Option Addr) (osl : Array (Option Value)) (L : Addr),
    X.K.lookup f = some ⟨oc, od, .func (PySem.W.ksFn name qual params body scope dV kV doc pm an (.ref cda) ct cc), osl⟩ ∧ X.env = envS qual scope L f (.ref cda) cc
structure SupF (P : Program) (K : PySem.W.Frag) (mg : Str → Option Value) (f cda cc D : Addr) (slf : Str) : Prop where
  par : ∀ {name qual : Str} {params : Arguments} {body : List Stmt} {scope : Scope} {dV kV doc pm ct oc : Value} {an od : Option Addr} {osl : Array (Option Value)},
    K.lookup f = some ⟨oc, od, .func (PySem.W.ksFn name qual params body scope dV kV doc pm an (.ref cda) ct cc), osl⟩ → ∃ ar, (params.posonlyargs ++ params.args).head? = some ar ∧ ar.arg = slf
  code : ∃ (ccl : Value) (cdd : Option Addr) (vs : Array Value) (ccs : Array (Option Value)) (file : Str) (tf : Tok), K.lookup cda = some ⟨ccl, cdd, .fields vs, ccs⟩ ∧ vs[2]? = some (.str file tf) ∧ ((P.main.file : Str) == file) = true
  cell : CellK K cc D
  isc : ∃ cd, PySem.W.clsIn K D = some cd
  htop : (P.main.scope.names.lookup ("super" : Str)).isSome = false
  hsuper : mg "super" = none
  ho : PySem.W.nsIn K cStatics "thirdparty.any" = some none
section
variable {X : Cx} {pins : List (Addr × Obj)} {σ : St} {H : Hp} {s : Shared}
theorem loc_of (I : Inv X pins σ H s) {i : Nat} {x : Str} {v : V} (hN : X.N[i]? = some x) (e : σ[i]? = some (some v)) (hv : X.env.scope.names.lookup x = some .local) (hcd : (x == ("__classdict__" : Str)) = false) {A : Around} {E : Value → Shared → Prop} {Q : Value → Shared → Prop}
    (h : ∀ u, RelV v u → Q u s) : wpAny (model X.prog X.w) A (loadName X.env x) Q E s := by
  obtain ⟨m, hn, hl⟩ := I.loc
  obtain ⟨u, r, l⟩ := hl i x v hN e (.inl hv)
  rcases l with ⟨hk, hm⟩ | ⟨hk, c, hc, hcell⟩
  · exact wpAny_loadName_local I.ok.kind hk hn hm (h u r)
  · rcases hk with hk | hk
    · exact wpAny_loadName_cell I.ok.kind hk hc hcell (h u r)
    · exact wpAny_loadName_free I.ok.kind hk hc hcell (h u r) hcd
theorem super_at {bd : List Stmt} {f cda cc D x C : Addr} {self attr : Str} {i : Nat} {p0 p1 : Pos} {whole : Sem Value} {ox : Obj} {Q : Value → Shared → Prop} {E : Value → Shared → Prop} (SX : SupX X f cda cc) (SF : SupF X.prog X.K X.mg f cda cc D self) (I : Inv X pins σ H s)
    (hks : X.env.scope.names.lookup ("super" : Str) = some .globalImplicit) (hkc : X.env.scope.names.lookup clsN = some .free) (hcl : ∃ L, X.env.cells = cellsX X.env.scope cc L) (hncl : (clsN, NameKind.cell) ∉ X.env.scope.names) (hat : (attr == clsN) = false) (hN : X.N[i]? = some self) (hself : X.env.scope.names.lookup self = some .local) (hcd : (self == ("__classdict__" : Str)) = false) (hσ : σ[i]? = some (some (.ref x)))
    (hx : s.heap.get? x = some ox) (hxc : ox.cls = .ref C) (hnc : ∀ c, ox.data ≠ .cls c) (hsub : PySem.W.mroIn X.K C (.ref D) = some true)
    (h : ∀ so s', Inv X ((so, PySem.W.ks_superObj D x C) :: pins) σ H s' → (∀ y o, s.heap.get? y = some o → s'.heap.get? y = some o) → X.base.get? so = none → Q (.ref so) s') :
    PySem.wpAt (model X.prog X.w) X.A (.func bd X.env) (attributeBase (.Call (.Name "super" p0) [] [] p1) attr X.env whole) Q E s := by
  obtain ⟨name, qual, params, body, scope, dV, kV, doc, pm, an, ct, oc, od, osl, L, lk, eenv⟩ := SX.ex
  obtain ⟨ar, har, eself⟩ := SF.par lk
  obtain ⟨ccl, cdd, vs, ccs, file, tf, lc, hvs, hfile⟩ := SF.code
  obtain ⟨cl, cld, csl, lcell⟩ := SF.cell
  obtain ⟨cdD, hD⟩ := SF.isc
  have KI := I.kIn
  obtain ⟨oD, hD1, hD2⟩ : ∃ oD, s.heap.get? D = some oD ∧ oD.data = .cls cdD := by
    unfold PySem.W.clsIn at hD
    split at hD
    · rename_i c d cd' sl ho
      cases hD
      exact ⟨_, KI _ _ ho, rfl⟩
    · cases hD
  have hfu : X.env.func = some f := by rw [eenv]
  have hco : X.env.code = .ref cda := by rw [eenv]
  refine PySem.ks_wpAt_super_base (env := X.env) (f := f) (of := ⟨oc, od, .func (PySem.W.ksFn name qual params body scope dV kV doc pm an (.ref cda) ct cc), osl⟩) hks hkc hat hfu (KI _ _ lk) rfl har hco (KI _ _ lc) rfl hvs hfile SF.htop ?_
  have g1 : wpAny (model X.prog X.w) X.A (loadName X.env "super") (fun g s₁ => g = .type "super" ∧ s₁ = s) E s := by
    refine PySem.W.ks_loadName_global I.ok.kind hks ?_
    obtain ⟨mb, h1, h2⟩ := I.mod.blt
    exact Calls.loadGlobal_builtin (by rw [I.ok.glob]; exact I.mod.glob.keeps I.bk) SF.hsuper (by rw [I.ok.blt]; exact h1.keeps I.bk) ((h2 "super" (by decide)).trans (by rfl)) ⟨rfl, rfl⟩
  refine wpAny_mono g1 (fun g s₁ hg => ?_) fun _ _ z => z
  obtain ⟨rfl, rfl⟩ := hg
  refine ⟨rfl, ?_⟩
  have hlk : X.env.cells.lookup clsN = some cc := by
    obtain ⟨L', hcl⟩ := hcl
    rw [hcl, cellsX_eq, List.lookup_append]
    cases e : (cellsFrom (L' + 1) X.env.scope.names []).lookup clsN with
    | none => rfl
    | some c =>
      rcases cellsFrom_dom _ _ _ _ _ (mem_of_lookup e) with q | q
      · cases q
      · exact absurd q hncl
  refine wpAny_loadName_free I.ok.kind hkc hlk (v := .ref D) ⟨_, KI _ _ lcell, rfl⟩ ?_
  rw [eself]
  refine loc_of I hN hσ hself hcd fun u ru => ?_
  obtain rfl : u = Value.ref x := ru
  obtain ⟨hh, gg, dd, tt, os⟩ := s₁
  refine PySem.ks_wpAny_isType_cls hD1 hD2 ⟨rfl, ?_⟩
  refine PySem.ks_wpAny_call_super hD1 hD2 hx hxc hnc (PySem.W.looks_mroIn KI hsub) fun h' e k => ?_
  have I2 := ClX.pin_new (t' := tt) I k (Nat.le_refl _) e (fun v z => nomatch z)
  exact h _ _ I2 k (ClX.base_none I (Nat.le_refl _))
end
structure SupM (K : PySem.W.Frag) (C D : Addr) (m : Str) (f2 : Addr) : Prop where
  hm : PySem.W.ks_superIn K C D m = some (some (.ref f2))
  ty : PySem.W.typeIn K (.ref f2) = some (.type "function")
  fi : PySem.W.fnIn K f2 = true
  sub : PySem.W.mroIn K C (.ref D) = some true
section
variable {X : Cx} {pins : List (Addr × Obj)} {σ : St} {H : Hp} {s : Shared}
theorem super_method {D x C so f2 : Addr} {m : Str} {pl : Sem Bool} {ox : Obj} {Q : Value × List Value → Shared → Prop} {E : Value → Shared → Prop} (I : Inv X ((so, PySem.W.ks_superObj D x C) :: pins) σ H s) (M : SupM X.K C D m f2) (ho : PySem.W.nsIn X.K cStatics "thirdparty.any" = some none)
    (hn : (m == clsN) = false) (hx : s.heap.get? x = some ox) (hxc : ox.cls = .ref C) (hnc : ∀ c, ox.data ≠ .cls c)
    (h : ∀ s', Inv X ((s.heap.objs.size, PySem.W.methodObj (.ref f2) (.ref x)) :: (so, PySem.W.ks_superObj D x C) :: pins) σ H s' → Q (.ref s.heap.objs.size, []) s') : wpAny (model X.prog X.w) X.A (getMethod (.ref so) m pl) Q E s := by
  have KI := I.kIn
  have hso := ClX.pin_at I
  obtain ⟨hh, gg, dd, tt, os⟩ := s
  cases hc : PySem.W.clsIn X.K C with
  | none => have hm := M.hm; unfold PySem.W.ks_superIn at hm; rw [hc] at hm; cases hm
  | some cd =>
    have hm := M.hm
    unfold PySem.W.ks_superIn at hm
    rw [hc] at hm
    obtain ⟨of, hof, hofc⟩ : ∃ of, hh.get? f2 = some of ∧ of.cls = .type "function" := by
      have ht' : (X.K.lookup f2).map (·.cls) = some (.type "function") := M.ty
      cases z : X.K.lookup f2 with
      | none => rw [z] at ht'; cases ht'
      | some of => rw [z] at ht'; exact ⟨of, KI _ _ z, Option.some.inj ht'⟩
    have hxC : x ≠ C := by
      rintro rfl
      unfold PySem.W.clsIn at hc
      split at hc
      · rename_i c d cd' sl ho
        have e := KI _ _ ho
        have e' : hh.get? x = some _ := e
        have hx' : hh.get? x = some ox := hx
        rw [hx'] at e'
        cases e'
        exact hnc _ rfl
      · cases hc
    refine PySem.ks_wpAny_getMethod_super hso (PySem.W.looks_opaque KI ho) (l₀ := cd.mro) ?_ rfl KI hm hof hofc hxC hn ?_
    · exact fun A Q E s k q => wpAny_bind ((PySem.W.looks_clsIn KI hc) A _ E s k (wpAny_pure q))
    · exact h _ (ClX.pin_new (t' := tt + 1) I (fun _ _ z => Heap.get?_push_of_some _ z) (Nat.le_refl _) (Heap.get?_push_size _ rfl) (fun v z => nomatch z))
end
end L2
namespace FI
open PySem L2 PySem.Spec PyProof.Rows
structure SupC where
  f : Addr
  cda : Addr
  cc : Addr
  D : Addr
  self : Str
structure XSup (g : Gm) (c : Sc) (q : SupC) (X : Cx) : Prop where
  x : XIs g c X
  sx : SupX X q.f q.cda q.cc
  cl : ∃ L, X.env.cells = cellsX X.env.scope q.cc L
structure FSa (g : Gm) (c : Sc) (q : SupC) (bd : List Stmt) (st : Stmt) (f : SS) : Prop where
  run : ∀ X, XSup g c q X → ∀ W, L2N.Takes X W → PSAt X bd st (tS g W f)
structure FBa (g : Gm) (c : Sc) (q : SupC) (bd sts : List Stmt) (f : SS) : Prop where
  run : ∀ X, XSup g c q X → ∀ W, L2N.Takes X W → PSsAt X bd sts (tS g W f)
theorem pssAt_imp {X : Cx} {bd st : List Stmt} {t t' : TS} (h : PSsAt X bd st t) (k : ∀ D σ H, t' D σ H → t D σ H) : PSsAt X bd st t' := ⟨fun pins s σ H D I q => h.run pins s σ H D I (k D σ H q)⟩
section
variable {g : Gm} {c : Sc} {q : SupC} {bd : List Stmt} {st : Stmt} {rest : List Stmt} {f h : SS}
theorem FS.at (hs : FS g c st f) : FSa g c q bd st f := ⟨fun X i W t => (hs.run X i.x W t).at⟩
theorem FB.at (hs : FB g c rest f) : FBa g c q bd rest f := ⟨fun X i W t => (hs.run X i.x W t).at⟩
theorem fba_cons (h1 : FSa g c q bd st f) (h2 : FBa g c q bd rest h) : FBa g c q bd (st :: rest) (bSeq f h) :=
  ⟨fun X i W t => pssAt_imp (pssAt_cons (h1.run X i W t) (h2.run X i W t)) fun D0 σ H ⟨ι, gs, G, ss, sh, q⟩ => ⟨ι, gs, G, ss, sh, q.seq⟩⟩
def sSup (i : Nat) (tab : List (Nat × Fn)) (fa : SA) : SS := fun gs G => match gs[i]? with
  | some (some (.ref n)) => match G[n]? with
    | some (.ins cn _) => match tab.lookup cn with
      | some F => onE (bnd (fa gs G) fun ds => F (.ref n :: ds)) gs fun _ G' => some (.nx, gs, G')
      | none => none
    | _ => none
  | _ => none
theorem fsa_super {e : Expr} {es : List Expr} {fa : SA} {p0 p1 apos pos spos : Pos} {m : Str} {i k : Nat} {tab : List (Nat × Fn)} (SF : SupF g.P g.K g.mg q.f q.cda q.cc q.D q.self)
    (hT : ∀ cn F, tab.lookup cn = some F → ∃ f2, SupM g.K (g.cls cn) q.D m f2 ∧ CalD g k f2 [] F) (hk : k ≤ c.k ∧ c.hot = false) (ha : FA g c (e :: es) fa)
    (hks : c.sc.names.lookup ("super" : Str) = some .globalImplicit := by rfl) (hkc : c.sc.names.lookup clsN = some .free := by rfl) (hncl : (clsN, NameKind.cell) ∉ c.sc.names := by decide) (hat : (m == clsN) = false := by decide) (hN : c.N[i]? = some q.self := by rfl) (hself : c.sc.names.lookup q.self = some .local := by rfl) (hcd : (q.self == ("__classdict__" : Str)) = false := by decide)
    (hsw : ∀ env, swapsWith (.Call (.Attribute (.Call (.Name "super" p0) [] [] p1) m apos) (e :: es) [] pos) none spos.line env = pure false := by intro _; rfl)
    (hst : ∀ env, starEach (e :: es) env = (false, eval e env) :: starEach es env := by intro _; rfl) (hpl : ∀ env, (backTo pos (starEach es env)).any (·.1) = false := by intro _; rfl)
    (hev : ∀ env, ∃ pl, eval (.Call (.Attribute (.Call (.Name "super" p0) [] [] p1) m apos) (e :: es) [] pos) env = (do
      let ov ← attributeBase (.Call (.Name "super" p0) [] [] p1) m env (eval (.Call (.Name "super" p0) [] [] p1) env)
      standAt apos.atName
      let (f, first) ← holding [ov] (getMethod ov m pl)
      callWith pos f first (backTo pos (starEach (e :: es) env)) []) := by intro _; exact ⟨_, rfl⟩) :
    FSa g c q bd (.Expr (.Call (.Attribute (.Call (.Name "super" p0) [] [] p1) m apos) (e :: es) [] pos) spos) (sSup i tab fa) := ⟨fun X j W tk => ⟨fun pins s σ H D0 I ⟨ι, gs, G, ss, sh, h⟩ => by
  have hP : X.prog = g.P := j.x.P
  have hK : X.K = g.K := j.x.K
  have hmg : X.mg = g.mg := j.x.mg
  have hsc : X.env.scope = c.sc := j.x.sc
  have hXN : X.N = c.N := j.x.N
  unfold sSup at h
  cases e1 : gs[i]? with
  | none => rw [e1] at h; exact h.no
  | some o1 =>
    cases o1 with
    | none => rw [e1] at h; exact h.no
    | some d =>
      cases d with
      | ref n =>
        rw [e1] at h
        dsimp only at h
        cases e2 : G[n]? with
        | none => rw [e2] at h; exact h.no
        | some ob =>
          cases ob with
          | ins cn fs =>
            rw [e2] at h
            dsimp only at h
            cases e3 : tab.lookup cn with
            | none => rw [e3] at h; exact h.no
            | some F =>
              rw [e3] at h
              dsimp only at h
              obtain ⟨v, hv1, hv2⟩ := ss.at_ i _ e1
              cases hv2 with
              | @ref _ a ha' =>
                obtain ⟨u, hu, ro⟩ := sh.at_ n _ a e2 ha'
                cases ro with
                | @ins _ dx _ vfs rf =>
                  obtain ⟨f2, M, C⟩ := hT cn F e3
                  obtain ⟨mA, O, _⟩ := ins_get I.hok hu
                  obtain ⟨od, J, _⟩ := O.look
                  have hnc : ∀ cdx, (PySem.W.instObj (g.cls cn) dx).data ≠ .cls cdx := fun cdx z => nomatch z
                  refine PySem.ks_wpAt_Expr_any (PySem.ks_wpAt_mono (Q := fun v s' => SP X pins D0 .next s') ?_ (fun _ _ z => z) fun _ _ z => z) I.quiet (hsw _)
                  obtain ⟨pl, hpl'⟩ := hev X.env
                  refine PySem.ks_wpAt_MethodCall (pl := pl) ?_ hpl'
                  refine super_at (C := g.cls cn) (ox := PySem.W.instObj (g.cls cn) dx) (i := i) (self := q.self) (D := q.D) j.sx (by rw [hP, hK, hmg]; exact SF) I (by rw [hsc]; exact hks) (by rw [hsc]; exact hkc) j.cl (by rw [hsc]; exact hncl) hat (by rw [hXN]; exact hN) (by rw [hsc]; exact hself) hcd hv1 J.at_ rfl hnc (by rw [hK]; exact M.sub) fun so s1 I1 kp1 hb1 => ?_
                  refine super_method (ox := PySem.W.instObj (g.cls cn) dx) (f2 := f2) I1 (by rw [hK]; exact M) (by rw [hK]; exact SF.ho) hat (kp1 _ _ J.at_) rfl hnc fun s2 I2 => ?_
                  have hb2 := ClX.base_none I1 (Nat.le_refl _)
                  refine ClX.callwith_cm I2 hb2 (by rw [hK]; exact M.fi) ?_ (hst _) (hpl _)
                  have hg := ((h.onE ss).bnd)
                  refine thn ((ha.run X j.x W tk).run pos _ s2 σ H (fun vs H2 => RdF g F (WE W σ) (.ref a :: vs) H2 (fun _ H' => D0.nx σ H')) I2 ⟨ι, gs, G, ss, sh, hg.imp fun ds ι2 G2 H2 s2 t2 h2 vs rs => ?_⟩) fun us s3 ⟨vs, H3, I3, rv, h3⟩ => ⟨⟨ClX.pin_at I3, I3.kIn⟩, ?_⟩
                  · exact ⟨ι2, .ref n :: ds, G2, .cons (.ref (s2.at ha')) rs, t2, Gv.toE (h2.imp fun d ι' G' H' s' t' z v rv => z.at (.refl _ _ _) t' ((ss.mono s2).mono s'))⟩
                  · have z := C X.A X.stack s3 H3 (Value.ref a :: us) [] (V.ref a :: vs) (fun _ H' => D0.nx σ H') (WE W σ) ((j.x.room hk.2).mono hk.1) (j.x.env I3) rfl (by rw [List.append_nil]; exact .cons rfl rv) h3
                    rw [← j.x.P, ← j.x.w] at z
                    refine wpAny_call (PySem.W.method_call (ClX.pin_at I3) (codeAny_mono z fun r s' hq => ?_))
                    cases r with
                    | error e => exact tk e s' (L2N.XE.of_call I3 (fun _ _ _ h => h) hq)
                    | ok fl =>
                      cases fl with
                      | ret u =>
                        obtain ⟨v', H', I4, rv', q4⟩ := I3.after hq
                        exact ⟨σ, H', ClX.unpin (ClX.unpin I4), q4⟩
                      | next => exact False.elim hq
                      | brk => exact False.elim hq
                      | cont => exact False.elim hq
          | _ => rw [e2] at h; exact h.no
      | _ => rw [e1] at h; exact h.no⟩⟩
end
end FI
set_option maxRecDepth 100000
set_option maxHeartbeats 2000000
namespace FI
open PySem L2 PySem.Spec PyProof.Rows
def DBnd (g : Gm) (fd : FuncData) (ps ks : List Str) (B : List D → Option (List D)) : Prop :=
  ∀ (A : Around) (outer : List Env) (s : Shared) (H : Hp) (us ws : List Value) (vs : List V) (ds es : List D) (G : Hh) (ι : List Addr) (E : XK), Env0 g.P g.w g.K g.mg g.base A outer s H → ws.length = ks.length → Vals vs (us ++ ws) → RelDs g ι H ds vs → SimH g ι G H → B ds = some es →
    StX.Bnd (L2N.CX g.P g.w) g.P g.w g.K g.mg g.base fd ⟨us, ks.zip ws⟩ ps A outer s H E fun vs2 H2 => Stp g ι H ι H2 ∧ SimH g ι G H2 ∧ RelDs g ι H2 es vs2
noncomputable def mkFnB (B : List D → Option (List D)) (n : Nat) (b : SS) : Fn := fun ds G => match B ds with
  | some es => slim G (runB b n es G)
  | none => none
def bPlain (np : Nat) : List D → Option (List D) := fun ds => if ds.length = np then some ds else none
section
variable {g : Gm} {k : Nat} {f : Addr} {name qual : Str} {params : Arguments} {body : List Stmt} {scope : Scope} {dV kV doc pm cdv ct oc : Value} {an od : Option Addr} {osl : Array (Option Value)} {N ps ks : List Str} {B : List D → Option (List D)} {b : SS} {fd : FuncData}
theorem dbnd_plain (hb : ∀ us : List Value, us.length = ps.length → bindArgs fd ⟨us, []⟩ = pure (ps.zip us)) : DBnd g fd ps [] (bPlain ps.length) := fun A outer s H us ws vs ds es G ι E e0 hw r rd sh hB => by
  have hw' : ws = [] := List.eq_nil_of_length_eq_zero hw
  subst hw'
  rw [List.append_nil] at r
  unfold bPlain at hB
  by_cases hl : ds.length = ps.length
  · rw [if_pos hl] at hB
    cases hB
    have hv : vs.length = ps.length := by rw [← rd.length]; exact hl
    intro A' Ex Q k
    rw [show ([] : List Str).zip ([] : List Value) = [] from rfl, hb us (by rw [← r.length]; exact hv)]
    exact wpAny_pure (k s H vs us e0 Un.refl rfl (fun _ _ z => z) r hv ⟨.refl _ _ _, sh, rd⟩)
  · rw [if_neg hl] at hB; cases hB
def bStarK (np : Nat) (kd : D) : List D → Option (List D) := fun ds => if np ≤ ds.length ∧ ds.length ≤ 100000 then some (ds.take np ++ [kd, .tup (ds.drop np)]) else none
def bStarW (np : Nat) : List D → Option (List D) := fun ds => if np + 1 ≤ ds.length ∧ ds.length ≤ 100000 then (match ds[ds.length - 1]? with
  | some z => some (ds.take np ++ [z, .tup ((ds.drop np).dropLast)])
  | none => none) else none
theorem dbnd_starK {pv kw : Str} {Dk : Addr} {u : Value} {kv : V} {kd : D} (hn : PySem.W.nsIn g.K Dk kw = some (some u)) (hu : RelV kv u) (hd : ∀ ι H, RelD g ι H kd kv)
    (hb : ∀ us rest : List Value, us.length = ps.length → ∃ (β γ : Type) (k1 : Option Value → Sem β) (k2 : β → Sem γ) (k3 : γ → Sem (List (Str × Value))) (a : β),
      bindArgs fd ⟨us ++ rest, []⟩ = ((nsGet Dk kw >>= k1) >>= k2) >>= k3 ∧ k1 (some u) = pure a ∧ (k2 a >>= k3) = (newTuple rest >>= fun t => pure (ps.zip us ++ [(kw, u), (pv, t)]))) : DBnd g fd (ps ++ [kw, pv]) [] (bStarK ps.length kd) := fun A outer s H us ws vs ds es G ι E e0 hw r rd sh hB => by
  have hw' : ws = [] := List.eq_nil_of_length_eq_zero hw
  subst hw'
  rw [List.append_nil] at r
  unfold bStarK at hB
  by_cases hl : ps.length ≤ ds.length ∧ ds.length ≤ 100000
  · rw [if_pos hl] at hB
    cases hB
    have hvl := rd.length
    have e1 : vs = vs.take ps.length ++ vs.drop ps.length := (List.take_append_drop _ _).symm
    rw [e1] at r
    obtain ⟨u1, u2, eu, r1, r2⟩ := StX.vals_split r
    subst eu
    have hl1 : u1.length = ps.length := by rw [← r1.length, List.length_take]; omega
    have hl2 : u2.length ≤ sizeLine := by
      have := r2.length
      rw [List.length_drop] at this
      have h3 : u2.length ≤ 100000 := by omega
      exact line_of h3
    intro A' Ex Q k
    obtain ⟨β, γ, k1, k2, k3, a, q1, q2, q3⟩ := hb u1 u2 hl1
    have KX : g.K.In s.heap := e0.mod.kin.keeps fun b o e => (e0.bs b o e).1
    rw [show ([] : List Str).zip ([] : List Value) = [] from rfl, q1, bind_assoc]
    refine wpAny_bind (wpAny_bind ((PySem.W.looks_nsIn KX hn).here ?_))
    rw [q2]
    refine wpAny_pure ?_
    show wpAny _ _ (k2 a >>= k3) _ _ _
    rw [q3]
    have hn : H s.heap.objs.size = none := e0.hok.fresh (Nat.le_refl _)
    refine wpAny_bind (wpAny_newTuple (wpAny_pure ?_) hl2)
    have hz : (vs.drop ps.length).length ≤ sizeLine := by rw [r2.length]; exact hl2
    have new : ObjOk g.P g.w (upd H s.heap.objs.size (.tup (vs.drop ps.length))) (s.heap.push ({ cls := .type "tuple", data := .seq u2.toArray } : Obj)) s.heap.objs.size (.tup (vs.drop ps.length)) := ⟨hz, u2, r2, ⟨_, Heap.get?_push_size _ rfl, rfl, _, rfl⟩⟩
    have un := StX.un_laid (fs := frs outer) (s := s) (o := ({ cls := .type "tuple", data := .seq u2.toArray } : Obj)) (u := .tup (vs.drop ps.length)) hn
    have z := k _ _ (vs.take ps.length ++ [kv, V.ref s.heap.objs.size]) (u1 ++ [u, Value.ref s.heap.objs.size]) (StX.env0_laid e0 new) un rfl (fun e s' => L2.cxUpN outer s H _ _ E e s' un (fun b o q => Heap.get?_push_of_some _ q) rfl) (r1.append (.cons hu (.cons rfl .nil)))
      (by rw [List.length_append, List.length_append, List.length_take]; show min _ _ + 2 = _ + 2; omega) ⟨stp_upd_new hn, sh.new hn, ((rd.take _).mono (stp_upd_new hn)).append (.cons (hd _ _) (.one (new_tup hn (rd.drop _))))⟩
    rw [List.zip_append hl1.symm] at z
    exact z
  · rw [if_neg hl] at hB; cases hB
theorem rdf_body {E : XK} {vs : List V} {H : Hp} {Q : VK} (q : RdF g (mkFnB B N.length b) E vs H Q) : ∃ ι ds es G, RelDs g ι H ds vs ∧ SimH g ι G H ∧ B ds = some es ∧ Gv g (fun c d _ H' => E c d H') [] ι H (runB b N.length es G) (fun d ι' _ H' => ∀ v, RelD g ι' H' d v → Q v H') := by
  obtain ⟨ι, ds, G, rs, sh, h⟩ := q
  unfold mkFnB at h
  cases e : B ds with
  | none => rw [e] at h; exact h.no
  | some es => rw [e] at h; exact ⟨ι, ds, es, G, rs, sh, e, Gv.unslim sh h⟩
theorem run_read (h0 : g.hx = none) {E : XK} {Q : VK} {es : List D} {vs2 : List V} {ι : List Addr} {G : Hh} {H H2 : Hp} (st : Stp g ι H ι H2) (sh : SimH g ι G H2) (rs : RelDs g ι H2 es vs2) (h : Gv g (fun c d _ H' => E c d H') [] ι H (runB b N.length es G) (fun d ι' _ H' => ∀ v, RelD g ι' H' d v → Q v H')) :
    tS g (fun c d _ H' => E c d H') b { nx := fun _ H' => Q .non H', rt := Q } (L2.start N vs2) H2 := by
  refine ⟨ι, start0 N.length es, G, simStart h0 rs N, sh, ?_⟩
  obtain ⟨r, G', e, q⟩ := h
  unfold runB at e
  cases eb : b (start0 N.length es) G with
  | none => rw [eb] at e; cases e
  | some p =>
    obtain ⟨fl, gs', G1⟩ := p
    rw [eb] at e
    refine ⟨fl, gs', G1, rfl, fun ι' H' σ' st2 sm su => ?_⟩
    cases fl with
    | nx => cases e; exact q ι' H' (st.trans st2) sm _ .non
    | rt d => cases e; exact q ι' H' (st.trans st2) sm
    | ex x => cases e; exact q ι' H' (st.trans st2) sm
    | bk => cases e
    | ct => cases e
theorem cal_def (lk : g.K.lookup f = some ⟨oc, od, .func (PySem.W.fnOf name qual params body scope dV kV doc pm an cdv ct), osl⟩) (hcd : PySem.W.codeIn g.K cdv qual = true) (S : FnScope N ps scope)
    (hb : DBnd g (PySem.W.fnOf name qual params body scope dV kV doc pm an cdv ct) ps ks B) (hB : FB g { N := N, sc := scope, k := k } body b) (h0 : g.hx = none := by rfl) : CalD g (k + 1) f ks (mkFnB B N.length b) := fun A outer s H us ws vs Q E hr e0 hw r q => by
  obtain ⟨ι, ds, es, G, rs, sh, eB, h⟩ := rdf_body q
  refine StX.run_bnd lk hcd S hr e0 (hb A outer s H us ws vs ds es G ι E e0 hw r rs sh eB) fun s2 H2 vs2 ⟨st, sh2, rs2⟩ hr' => ?_
  exact ⟨_, hB.run _ (xis_def h0 S.nd hr') (fun c d _ H' => E c d H') (L2N.takes_of rfl rfl rfl rfl), run_read h0 st sh2 rs2 h⟩
end
section
variable {g : Gm} {k : Nat} {f cda cc D : Addr} {self : Str} {name qual : Str} {params : Arguments} {body : List Stmt} {scope : Scope} {dV kV doc pm ct oc : Value} {an od : Option Addr} {osl : Array (Option Value)} {N ps ks : List Str} {B : List FI.D → Option (List FI.D)} {b : SS} {fd : FuncData}
theorem cal_sup (lk : g.K.lookup f = some ⟨oc, od, .func (PySem.W.ksFn name qual params body scope dV kV doc pm an (.ref cda) ct cc), osl⟩) (hcd : PySem.W.codeIn g.K (.ref cda) qual = true) (S : SupScope N ps scope) (hcell : CellK g.K cc D)
    (hb : DBnd g (PySem.W.ksFn name qual params body scope dV kV doc pm an (.ref cda) ct cc) ps ks B) (hB : FBa g { N := N, sc := scope, k := k, ow := fun x => x != clsN } ⟨f, cda, cc, D, self⟩ body body b) (h0 : g.hx = none := by rfl) : CalD g (k + 1) f ks (mkFnB B N.length b) := fun A outer s H us ws vs Q E hr e0 hw r q => by
  obtain ⟨ι, ds, es, G, rs, sh, eB, h⟩ := rdf_body q
  have KX : g.K.In s.heap := e0.mod.kin.keeps fun b o e => (e0.bs b o e).1
  obtain ⟨cl, cld, csl, lc⟩ := hcell
  refine codeAny_call_function hr.depth (KX _ _ lk) rfl S.co S.gen rfl (PySem.W.codeRec_of KX hcd) ?_
  refine hb A outer s H us ws vs ds es G ι E e0 hw r rs sh eB _ _ _ fun s2 H2 vs2 us2 e2 un ho hx r2 hl ⟨st, sh2, rs2⟩ => ?_
  have lim : s2.heap.NoLimit := e0.mod.nolimit.keeps fun b o e => (e2.bs b o e).1
  have cb : g.base.get? cc = some ⟨cl, cld, .cell (some (.ref D)), csl⟩ := e0.mod.kin _ _ lc
  obtain ⟨c2, hcn⟩ := e2.bs _ _ cb
  refine InCF.env (s := s2) (qual := qual) S ⟨_, ⟨_, c2, rfl⟩⟩ (fun y hy => S.par y.1 (List.of_mem_zip hy).1) fun s1 cm x => ?_
  refine ⟨lim.keeps x.toInCall.keep, PySem.ks_codeAny_funcAt ?_⟩
  have I : Inv (scx (L2N.CX g.P g.w) g.P g.w g.K g.mg g.base N qual scope f (.ref cda) cc A outer s2 H2 E) [] (L2.start N vs2) H2 s1 := inv_startS S hr.hd e2 hl r2 hcn (Heap.lt_size c2) x
  have X1 : XIs g { N := N, sc := scope, k := k, ow := fun x => x != clsN } (scx (L2N.CX g.P g.w) g.P g.w g.K g.mg g.base N qual scope f (.ref cda) cc A outer s2 H2 E) :=
    ⟨rfl, rfl, rfl, rfl, rfl, rfl, rfl, S.nd, fun _ => rfl, fun _ => hr.deeper _, (hr.deeper _).un, (hr.deeper _).dp, (fun q e => by rw [h0] at e; cases e), passes_of rfl, fun x h => .inl h, fun _ => ⟨rfl, rfl⟩, fun z => nomatch z⟩
  have X2 : XSup g { N := N, sc := scope, k := k, ow := fun x => x != clsN } ⟨f, cda, cc, D, self⟩ (scx (L2N.CX g.P g.w) g.P g.w g.K g.mg g.base N qual scope f (.ref cda) cc A outer s2 H2 E) :=
    ⟨X1, ⟨name, qual, params, body, scope, dV, kV, doc, pm, an, ct, oc, od, osl, _, lk, rfl⟩, ⟨_, rfl⟩⟩
  have tk : L2N.Takes (scx (L2N.CX g.P g.w) g.P g.w g.K g.mg g.base N qual scope f (.ref cda) cc A outer s2 H2 E) (fun c d _ H' => E c d H') := L2N.takes_of rfl rfl rfl rfl
  refine PySem.ks_wpAt_mono ((hB.run _ X2 _ tk).run [] s1 _ H2 _ I (run_read h0 st sh2 rs2 h)) (fun fl s' hs => ?_) fun e s' hs => ?_
  · have fin : ∀ {σ' : L2.St} {H' : Hp} {v' : V} {u' : Value}, Inv (scx (L2N.CX g.P g.w) g.P g.w g.K g.mg g.base N qual scope f (.ref cda) cc A outer s2 H2 E) [] σ' H' s' → RelV v' u' → Q v' H' → CE outer g.P g.w H s Q u' s' :=
      fun {σ' H' v' u'} J rv' q => ⟨v', H', J.os.trans ho, J.bare, un.trans J.base, J.hok, rv', q⟩
    cases fl with
    | ret u' =>
      obtain ⟨v', σ', H', J, rv', q⟩ := hs
      exact fin J rv' q
    | next =>
      obtain ⟨σ', H', J, q⟩ := hs
      exact fin (v' := V.non) (u' := Value.none) J rfl q
    | brk =>
      obtain ⟨_, _, _, q⟩ := hs
      exact False.elim q
    | cont =>
      obtain ⟨_, _, _, q⟩ := hs
      exact False.elim q
  · exact wpAny_mono hs (fun _ s'' z => hx e s'' z) fun e' s'' z => hx e' s'' z
end
end FI
set_option maxRecDepth 100000
set_option maxHeartbeats 2000000
namespace L2
open PySem PySem.Spec PyProof.Rows
structure SupE (K : PySem.W.Frag) (C D : Addr) : Prop where
  hm : PySem.W.ks_superIn K C D "__init__" = some (some (.builtin "ValueError.__init__"))
  hB : PySem.W.subIn K (.ref C) (.type "ValueError") = some true
  sub : PySem.W.mroIn K C (.ref D) = some true
section
variable {X : Cx} {pins : List (Addr × Obj)} {σ : St} {H : Hp} {s : Shared}
theorem inst_exo (I : Inv X pins σ H s) {a C : Addr} (e : H a = some (exo a C none)) : ∃ ox, PySem.W.InstAt s.heap a ox C none ∧ (∀ c, ox.data ≠ .cls c) := by
  obtain ⟨t1, ho⟩ := exo_at I.hok e
  exact ⟨_, ⟨ho, rfl, rfl, trivial⟩, fun c z => nomatch z⟩
theorem mw_call {u a C : Addr} {us : List Value} {Q : Value → Shared → Prop} (T : OexC X.K C) (I : Inv X ((u, PySem.W.kxs_mw "ValueError.__init__" a) :: pins) σ H s) (e : H a = some (exo a C none)) (hl : us.length ≤ sizeLine)
    (h : ∀ s', Inv X ((u, PySem.W.kxs_mw "ValueError.__init__" a) :: pins) σ H s' → Q .none s') : wpAny (model X.prog X.w) X.A (call (.ref u) us) Q X.xe s := by
  obtain ⟨nm, q, N, bs, bm, sn, sub, ab, col, dd, k0, k1, k2, k3, k5, hC, hbm⟩ := T.cls
  obtain ⟨t1, ho⟩ := exo_at I.hok e
  have hu := ClX.pin_at I
  have KI := I.kIn
  obtain ⟨hp, g, d, t, os⟩ := s
  refine wpAny_call (codeAny_of_tree ?_)
  show wpAny _ X.A.in1 (callAny (.ref u) ⟨us, []⟩) _ _ _
  simp only [callAny]
  refine wpAny_bind (wpAny_load hu ?_)
  simp only [PySem.W.kxs_mw, show (Value.type "method-wrapper" == Value.type "method" || Value.type "method-wrapper" == Value.type "builtin_function_or_method" || Value.type "method-wrapper" == Value.type "method-wrapper") = true by decide, if_true]
  refine PySem.W.KFB.if_so (by decide) ?_
  refine wpAny_bind (PySem.W.check_bound_init F.excBase_ValueError.toExcCallFacts (KI _ _ hC) ho rfl ?_)
  refine wpAny_bind (wpAny_pure (wpAny_pure ?_))
  refine ⟨plainId_quiet F.excBase_ValueError.init.plain _, codeAny_builtin F.excBase_ValueError.initEntry ?_⟩
  refine PySem.W.exc_init_tree (cls := .ref C) (t0 := t1) (dv := none) (c2 := .none) (c3 := .none) (b4 := .bool false) ho hl fun h' k hx _ => ?_
  have J := I.write (t' := t) (x := a) (e := a) (o := exo a C none) (by rw [e]; exact True.intro) (.inl rfl) k ⟨_, hx⟩ (exo_ok hx)
  have eu : upd H a (exo a C none) = H := by
    funext b
    by_cases hb : b = a
    · rw [hb, upd_same, e]
    · rw [upd_ne hb]
  rw [eu] at J
  exact h _ J
def tSupE (i : Nat) (D C : Addr) (t : TA) : TS := fun D0 σ H => ∃ a, σ[i]? = some (some (.ref a)) ∧ H a = some (exo a C none) ∧ t σ H fun vs H1 => vs.length ≤ 1000 ∧ H1 a = some (exo a C none) ∧ D0.nx σ H1
theorem psat_superE {bd : List Stmt} {f cda cc D C : Addr} {self : Str} {i : Nat} {e : Expr} {es : List Expr} {t : TA} {p0 p1 apos pos spos : Pos} (SX : SupX X f cda cc) (SF : SupF X.prog X.K X.mg f cda cc D self) (M : SupE X.K C D) (T : OexC X.K C) (ha : PA X (e :: es) t)
    (hks : X.env.scope.names.lookup ("super" : Str) = some .globalImplicit) (hkc : X.env.scope.names.lookup clsN = some .free) (hcl : ∃ L, X.env.cells = cellsX X.env.scope cc L) (hncl : (clsN, NameKind.cell) ∉ X.env.scope.names) (hN : X.N[i]? = some self) (hself : X.env.scope.names.lookup self = some .local) (hcd : (self == ("__classdict__" : Str)) = false)
    (hsw : swapsWith (.Call (.Attribute (.Call (.Name "super" p0) [] [] p1) "__init__" apos) (e :: es) [] pos) none spos.line X.env = pure false)
    (hst : starEach (e :: es) X.env = (false, eval e X.env) :: starEach es X.env) (hpl : (backTo pos (starEach es X.env)).any (·.1) = false)
    (hev : ∃ pl, eval (.Call (.Attribute (.Call (.Name "super" p0) [] [] p1) "__init__" apos) (e :: es) [] pos) X.env = (do
      let ov ← attributeBase (.Call (.Name "super" p0) [] [] p1) "__init__" X.env (eval (.Call (.Name "super" p0) [] [] p1) X.env)
      standAt apos.atName
      let (f, first) ← holding [ov] (getMethod ov "__init__" pl)
      callWith pos f first (backTo pos (starEach (e :: es) X.env)) [])) :
    PSAt X bd (.Expr (.Call (.Attribute (.Call (.Name "super" p0) [] [] p1) "__init__" apos) (e :: es) [] pos) spos) (tSupE i D C t) := ⟨fun pins s σ H D0 I ⟨a, hσ, hx, h⟩ => by
  obtain ⟨ox, J, hnc⟩ := inst_exo I hx
  refine PySem.ks_wpAt_Expr_any (PySem.ks_wpAt_mono (Q := fun v s' => SP X pins D0 .next s') ?_ (fun _ _ z => z) fun _ _ z => z) I.quiet hsw
  obtain ⟨pl, hpl'⟩ := hev
  refine PySem.ks_wpAt_MethodCall (pl := pl) ?_ hpl'
  refine super_at (C := C) (ox := ox) (i := i) (D := D) SX SF I hks hkc hcl hncl (by decide) hN hself hcd hσ J.at_ J.cls hnc M.sub fun so s1 I1 kp1 hb1 => ?_
  have KI := I1.kIn
  have hso := ClX.pin_at I1
  have J1 : PySem.W.InstAt s1.heap a ox C none := ⟨kp1 _ _ J.at_, J.cls, J.no, by
    have z := J.dict
    revert z
    cases ox.dict <;> exact id⟩
  have hI : PySem.W.Looks (model X.prog X.w) s1.heap (isInstance (.ref a) (.type "ValueError")) true := J1.type.andThen (PySem.W.looks_subIn KI M.hB)
  obtain ⟨hh, gg, dd, tt, os⟩ := s1
  cases hc : PySem.W.clsIn X.K C with
  | none => have hm := M.hm; unfold PySem.W.ks_superIn at hm; rw [hc] at hm; cases hm
  | some cd =>
    have hm := M.hm
    unfold PySem.W.ks_superIn at hm
    rw [hc] at hm
    refine PySem.W.kxs_getMethod PySem.W.kxs_ValueError hso (PySem.W.looks_opaque KI SF.ho) (l₀ := cd.mro) (fun A Q E s k q => wpAny_bind ((PySem.W.looks_clsIn KI hc) A _ E s k (wpAny_pure q))) rfl KI hm hI (PySem.W.ks_ne KI J1 hc) (by decide) ?_
    have I2 := ClX.pin_new (t' := tt + 1) (o := PySem.W.kxs_mw "ValueError.__init__" a) (h' := hh.push (PySem.W.kxs_mw "ValueError.__init__" a)) I1 (fun _ _ z => Heap.get?_push_of_some _ z) (Nat.le_refl _) (Heap.get?_push_size _ rfl) (fun v z => nomatch z)
    show wpAny _ _ (callWith pos (.ref hh.objs.size) [] (backTo pos (starEach (e :: es) X.env)) []) _ _ _
    rw [hst]
    have key : wpAny (model X.prog X.w) X.A (spliced (backTo pos (starEach (e :: es) X.env))) (fun vs s₁ => PySem.W.KxsAt "ValueError.__init__" hh.objs.size a s₁.heap ∧ wpAny (model X.prog X.w) X.A (call (.ref hh.objs.size) vs) (fun _ s' => SP X pins D0 .next s') X.xe s₁) X.xe ⟨hh.push (PySem.W.kxs_mw "ValueError.__init__" a), gg, dd, tt + 1, os⟩ :=
      thn (ha.run pos _ _ σ H _ I2 h) fun us s3 ⟨vs, H3, I3, rv, hl, ha3, h3⟩ => ⟨ClX.pin_at I3, mw_call T I3 ha3 (by rw [← rv.length]; exact Nat.le_trans hl (by decide)) fun s' I4 => ⟨σ, H3, ClX.unpin (ClX.unpin I4), h3⟩⟩
    rw [hst] at key
    exact PySem.W.kxs_callWith (i := "ValueError.__init__") (x := a) (by show (false || (backTo pos (starEach es X.env)).any (·.1)) = false; rw [hpl]; rfl) (Calls.evalArgs_plain key)⟩
def tOsts (K : PySem.W.Frag) : List (Str × Nat) → TS
  | [] => fun D σ H => D.nx σ H
  | (f, j) :: r => fun D σ H => tOst K f (tVar 0) (tVar j) { D with nx := tOsts K r D } σ H
theorem pss_ost_nil : PSs X [] (tOsts X.K []) := pss_nil
theorem pss_ost_cons {st : Stmt} {rest : List Stmt} {f : Str} {j : Nat} {r : List (Str × Nat)} (h1 : PS X st (tOst X.K f (tVar 0) (tVar j))) (h2 : PSs X rest (tOsts X.K r)) : PSs X (st :: rest) (tOsts X.K ((f, j) :: r)) := pss_cons h1 h2
def ostV (σ : St) (fl : List (Str × Nat)) : List (Str × V) := fl.map fun p => (p.1, ((σ[p.2]?).join).getD .non)
theorem read_more {K : PySem.W.Frag} {C a dx : Addr} (T : OexC K C) {D0 : Ends} : ∀ (fl : List (Str × Nat)) (fs : List (Str × V)) (σ : St) (H : Hp), (∀ p ∈ fl, PySem.W.findIn K (.ref C) p.1 = some none ∧ ∃ v, σ[p.2]? = some (some v)) → σ[0]? = some (some (.ref a)) → H a = some (exo a C (some dx)) → H dx = some (exd dx fs) → fs.length + fl.length ≤ 900 → dx ≠ a →
    D0.nx σ (upd H dx (exd dx ((ostV σ fl).reverse ++ fs))) → tOsts K fl D0 σ H
  | [], fs, σ, H, _, _, _, ed, _, _, q => by
    have e : upd H dx (exd dx fs) = H := by
      funext b
      by_cases hb : b = dx
      · rw [hb, upd_same, ed]
      · rw [upd_ne hb]
    have q' : D0.nx σ (upd H dx (exd dx fs)) := q
    rw [e] at q'
    exact q'
  | (f, j) :: fl, fs, σ, H, hp, h0, ea, ed, hl, hne, q => by
    obtain ⟨hno, v, hv⟩ := hp (f, j) (List.mem_cons_self ..)
    refine ⟨v, hv, .ref a, h0, a, C, rfl, T, hno, .inr ⟨dx, fs, ea, ed, by simp at hl; omega, ?_⟩⟩
    refine read_more T fl ((f, v) :: fs) σ _ (fun p hm => hp p (List.mem_cons_of_mem _ hm)) h0 (by rw [upd_ne (Ne.symm hne)]; exact ea) upd_same (by simp at hl ⊢; omega) hne ?_
    have e2 : (ostV σ ((f, j) :: fl)).reverse ++ fs = (ostV σ fl).reverse ++ (f, v) :: fs := by
      unfold ostV
      rw [List.map_cons, List.reverse_cons, hv]
      simp
    rw [e2] at q
    have e3 : upd (upd H dx (exd dx ((f, v) :: fs))) dx (exd dx ((ostV σ fl).reverse ++ (f, v) :: fs)) = upd H dx (exd dx ((ostV σ fl).reverse ++ (f, v) :: fs)) := by
      funext b
      by_cases hb : b = dx
      · rw [hb, upd_same, upd_same]
      · rw [upd_ne hb, upd_ne hb, upd_ne hb]
    rw [e3]
    exact q
theorem read_osts {K : PySem.W.Frag} {C a : Addr} (T : OexC K C) {D0 : Ends} {f : Str} {j : Nat} {fl : List (Str × Nat)} {σ : St} {H : Hp} (hp : ∀ p ∈ (f, j) :: fl, PySem.W.findIn K (.ref C) p.1 = some none ∧ ∃ v, σ[p.2]? = some (some v)) (h0 : σ[0]? = some (some (.ref a))) (ea : H a = some (exo a C none)) (hl : fl.length ≤ 800)
    (q : ∀ dx, H dx = none → dx ≠ a → D0.nx σ (upd (upd H a (exo a C (some dx))) dx (exd dx (ostV σ ((f, j) :: fl)).reverse))) : tOsts K ((f, j) :: fl) D0 σ H := by
  obtain ⟨hno, v, hv⟩ := hp (f, j) (List.mem_cons_self ..)
  refine ⟨v, hv, .ref a, h0, a, C, rfl, T, hno, .inl ⟨ea, fun dx hdx hne => ?_⟩⟩
  refine read_more T fl [(f, v)] σ _ (fun p hm => hp p (List.mem_cons_of_mem _ hm)) h0 upd_same (by rw [upd_ne hne]; exact upd_same) (by simp; omega) hne ?_
  have e2 : (ostV σ fl).reverse ++ [(f, v)] = (ostV σ ((f, j) :: fl)).reverse := by
    unfold ostV
    rw [List.map_cons, List.reverse_cons, hv]
    rfl
  rw [e2]
  have e3 : upd (upd (upd H dx (exd dx [(f, v)])) a (exo a C (some dx))) dx (exd dx (ostV σ ((f, j) :: fl)).reverse) = upd (upd H a (exo a C (some dx))) dx (exd dx (ostV σ ((f, j) :: fl)).reverse) := by
    funext b
    by_cases hb : b = dx
    · rw [hb, upd_same, upd_same]
    · rw [upd_ne hb, upd_ne hb]
      by_cases hb2 : b = a
      · rw [hb2, upd_same, upd_same]
      · rw [upd_ne hb2, upd_ne hb2, upd_ne hb]
  rw [e3]
  exact q dx hdx hne
end
theorem fn_sup {P : Program} {w : World} {K : PySem.W.Frag} {mg : Str → Option Value} {base : Heap} {k : Nat} {f cda cc D : Addr} {name qual : Str} {params : Arguments} {body : List Stmt} {scope : Scope} {dV kV doc pm ct oc : Value} {an od : Option Addr} {osl : Array (Option Value)} {N ps : List Str} {sp : Sp}
    (lk : K.lookup f = some ⟨oc, od, .func (PySem.W.ksFn name qual params body scope dV kV doc pm an (.ref cda) ct cc), osl⟩) (hcd : PySem.W.codeIn K (.ref cda) qual = true) (S : SupScope N ps scope) (hcell : CellK K cc D) (len : ∀ vs H Q E, sp vs H Q E → vs.length = ps.length)
    (hbody : ∀ (A : Around) (outer : List Env) (s : Shared) (H : Hp) (vs : List V) (Q : VK) (E : XK), Room k (A.deeper (envS qual scope s.heap.objs.size f (.ref cda) cc)) → sp vs H Q E →
      ∃ t, PSsAt (scx (L2N.CX P w) P w K mg base N qual scope f (.ref cda) cc A outer s H E) body body t ∧ t { nx := fun _ H' => Q .non H', rt := Q } (start N vs) H) :
    FnOk P w K mg base (L2N.CX P w) (k + 1) f (PySem.W.ksFn name qual params body scope dV kV doc pm an (.ref cda) ct cc) ps sp := by
  refine ⟨len, fun A outer s H args us vs Q E hr e0 hb r hsp => ?_⟩
  have hl := len _ _ _ _ hsp
  have KX : K.In s.heap := e0.mod.kin.keeps fun b o e => (e0.bs b o e).1
  have lim : s.heap.NoLimit := e0.mod.nolimit.keeps fun b o e => (e0.bs b o e).1
  obtain ⟨cl, cld, csl, lc⟩ := hcell
  obtain ⟨c2, hcn⟩ := e0.bs _ _ (e0.mod.kin _ _ lc)
  refine codeAny_call_function hr.depth (KX _ _ lk) rfl S.co S.gen rfl (PySem.W.codeRec_of KX hcd) (hb _ _ _ _ ?_)
  refine InCF.env (s := s) (qual := qual) S ⟨_, ⟨_, c2, rfl⟩⟩ (fun y hy => S.par y.1 (List.of_mem_zip hy).1) fun s1 cm x => ?_
  refine ⟨lim.keeps x.toInCall.keep, PySem.ks_codeAny_funcAt ?_⟩
  have I : Inv (scx (L2N.CX P w) P w K mg base N qual scope f (.ref cda) cc A outer s H E) [] (start N vs) H s1 := inv_startS S hr.hd e0 hl r hcn (Heap.lt_size c2) x
  obtain ⟨t, ht, hq⟩ := hbody A outer s H vs Q E (hr.deeper _) hsp
  refine PySem.ks_wpAt_mono (ht.run [] s1 _ H _ I hq) (fun fl s' hs => ?_) fun e s' hs => hs
  have fin : ∀ {σ' : St} {H' : Hp} {v' : V} {u' : Value}, Inv (scx (L2N.CX P w) P w K mg base N qual scope f (.ref cda) cc A outer s H E) [] σ' H' s' → RelV v' u' → Q v' H' → CE outer P w H s Q u' s' :=
    fun {σ' H' v' u'} J rv' q => ⟨v', H', J.os, J.bare, J.base, J.hok, rv', q⟩
  cases fl with
  | ret u' =>
    obtain ⟨v', σ', H', J, rv', q⟩ := hs
    exact fin J rv' q
  | next =>
    obtain ⟨σ', H', J, q⟩ := hs
    exact fin (v' := V.non) (u' := Value.none) J rfl q
  | brk =>
    obtain ⟨_, _, _, q⟩ := hs
    exact False.elim q
  | cont =>
    obtain ⟨_, _, _, q⟩ := hs
    exact False.elim q
end L2
set_option maxRecDepth 100000
set_option maxHeartbeats 2000000
namespace L2
open PySem PySem.Spec PyProof.Rows
section
variable {X : Cx}
theorem mk_endN {pins : List (Addr × Obj)} {σ : St} {H1 H2 : Hp} {Q : XK} {hp hp2 h2 : Heap} {g1 g2 : Array GenState} {d1 d2 : Drawn} {t1 t2 : Nat} {os1 os2 : OsState} {a C : Addr} (T : Raises X (.ref C)) (I1 : Inv X pins σ H1 ⟨hp, g1, d1, t1, os1⟩)
    (ha : hp.objs.size ≤ a) (k : ∀ b o, hp.get? b = some o → hp2.get? b = some o) (un : Un (frs X.stack) [] (upd H1 a (exo a C none)) H2 hp2 h2) (hok : HOk X.prog X.w H2 h2) (ho : os2 = os1) (hb : AllBare g2)
    (ea : H2 = upd H1 a (exo a C none)) (q : Q (.ref C) none H1) : L2N.MkP X pins σ Q (.ref a) ⟨h2, g2, d2, t2, os2⟩ := by
  subst ea
  obtain ⟨t0, hoe⟩ := exo_at hok (upd_same (H := H1) (a := a) (o := exo a C none))
  have hn : H1 a = none := I1.hok.fresh ha
  obtain ⟨G, g1', g2'⟩ := restrict h2 fun b => decide (b ≠ a)
  have gk : ∀ b, b ≠ a → G.get? b = h2.get? b := fun b hb => g1' b (decide_eq_true hb)
  have ge : G.get? a = none := g2' a (by simp)
  have nha : ∀ {b : Addr} {o : Obj}, hp.get? b = some o → b ≠ a := fun {b o} z => Nat.ne_of_lt (Nat.lt_of_lt_of_le (Heap.lt_size z) ha)
  have up : ∀ {b : Addr}, b ≠ a → H1 b = none → upd H1 a (exo a C none) b = none := fun {b} hb n => by rw [upd_ne hb]; exact n
  have U : Un (frs X.stack) [] H1 H1 hp G := {
    keep := fun b o z n hf hx => by
      rw [gk b (nha z)]
      exact un.keep b o (k b o z) (up (nha z) n) hf hx
    slot := fun b o z n hf hx => by
      rw [gk b (nha z)]
      exact un.slot b o (k b o z) (up (nha z) n) hf hx
    free := fun b o z n hx => n
    there := fun b o z hx => by
      rw [gk b (nha z)]
      exact un.there b o (k b o z) hx
    tups := fun b xs z => z
    frzs := fun b o v z => z
    tbls := fun b ps z => ⟨#[], by simpa using z⟩ }
  have hok3 : HOk X.prog X.w H1 G := fun b o z => by
    have hba : b ≠ a := fun e => by rw [e, hn] at z; cases z
    have noa : ∀ {c : Addr}, upd H1 a (exo a C none) c = some (.own b) → c ≠ a := fun {c} hc e => by
      subst e
      rw [upd_same] at hc
      exact exo_own (Option.some.inj hc)
    have z' : upd H1 a (exo a C none) b = some o := by rw [upd_ne hba]; exact z
    exact (hok b o z').stay (fun c v hc y => by
        have hca : c ≠ a := by
          rcases hc with hc | hc
          · rw [hc]; exact hba
          · exact noa hc
        rw [gk c hca]
        exact y)
      (fun c hc => by
        have := noa hc
        rw [upd_ne this] at hc
        exact hc) (fun c xs hc => by
        have : c ≠ a := fun e => by
          subst e
          rw [upd_same] at hc
          exact exo_tup (Option.some.inj hc)
        rw [upd_ne this] at hc
        exact hc)
  have J : Inv X pins σ H1 ⟨G, g2, d2, t2, os2⟩ := I1.call' (ch := []) ho U hok3 hb (fun b z => absurd z (by simp))
  have kG : ∀ b o, G.get? b = some o → h2.get? b = some o := fun b o z => by
    by_cases hba : b = a
    · rw [hba, ge] at z; cases z
    · exact (gk b hba).symm.trans z
  exact ⟨a, _, _, ⟨G, g2, d2, t2, os2⟩, _, .ref C, none, rfl, J, kG, ge, hoe, ⟨rfl, rfl, fun vs hv => by cases hv; rfl⟩, rfl, rfl, hn, rfl, hb, T, q⟩
theorem mk_endZ {pins : List (Addr × Obj)} {σ : St} {H1 H2 : Hp} {Q : XK} {hp hp2 h2 : Heap} {g1 g2 : Array GenState} {d1 d2 : Drawn} {t1 t2 : Nat} {os1 os2 : OsState} {a C d : Addr} {fs : List (Str × V)} (T : Raises X (.ref C)) (I1 : Inv X pins σ H1 ⟨hp, g1, d1, t1, os1⟩)
    (ha : hp.objs.size ≤ a) (k : ∀ b o, hp.get? b = some o → hp2.get? b = some o) (un : Un (frs X.stack) [] (upd H1 a (exo a C none)) H2 hp2 h2) (hok : HOk X.prog X.w H2 h2) (ho : os2 = os1) (hb : AllBare g2)
    (ea : H2 a = some (exo a C (some d))) (ed : H2 d = some (exd d fs)) (hd1 : H1 d = none) (q : Q (.ref C) (some d) (upd (del H2 a) d (.xd fs))) : L2N.MkP X pins σ Q (.ref a) ⟨h2, g2, d2, t2, os2⟩ := by
  obtain ⟨t0, G, J, kG, ge, hoe, na⟩ := mk_end0 (d2 := d2) (t2 := t2) I1 ha k un hok ho hb ea ed hd1
  exact ⟨a, _, _, ⟨G, g2, d2, t2, os2⟩, _, .ref C, some d, rfl, J, kG, ge, hoe, ⟨rfl, rfl, fun vs hv => by cases hv; rfl⟩, rfl, rfl, na, rfl, hb, T, q⟩
theorem mk_core {CX : CXT} {C fI : Addr} {k : Nat} {fd : FuncData} {ps : List Str} {sp : Sp} {pins : List (Addr × Obj)} {σ : St} {H1 : Hp} {s1 : Shared} {Q : XK} {us : List Value} {vs : List V} (T : OexC X.K C) (iC : PySem.W.findIn X.K (.ref C) "__init__" = some (some (.ref fI))) (tI : PySem.W.typeIn X.K (.ref fI) = some (.type "function"))
    (F1 : FnOk X.prog X.w X.K X.mg X.base CX k fI fd ps sp) (hr : Room (k + 1) X.A) (hb : Binds X.K fd ps []) (hx : Passes CX X (fun _ _ _ => False)) (I1 : Inv X pins σ H1 s1) (r1 : Vals vs us) (hz : vs.length ≤ 1000)
    (q1 : ∀ a, H1 a = none → sp (.ref a :: vs) (upd H1 a (exo a C none)) (fun v H2 => v = .non ∧ ((∃ (d : Addr) (fs : List (Str × V)), H2 a = some (exo a C (some d)) ∧ H2 d = some (exd d fs) ∧ H1 d = none ∧ Q (.ref C) (some d) (upd (del H2 a) d (.xd fs))) ∨ (H2 = upd H1 a (exo a C none) ∧ Q (.ref C) none H1))) (fun _ _ _ => False)) :
    wpAny (model X.prog X.w) X.A (call (.ref C) us) (L2N.MkP X pins σ Q) X.xe s1 := by
  obtain ⟨nm, q, N, bs, bm, sn, sub, ab, col, dd, k0, k1, k2, k3, k5, hC, hbm⟩ := T.cls
  obtain ⟨hp, g, dr, tk, os⟩ := s1
  have hsz : hp.objs.size ≤ hp.objs.size + 1 := Nat.le_succ _
  have hn : H1 (hp.objs.size + 1) = none := I1.hok.fresh hsz
  have hq := q1 (hp.objs.size + 1) hn
  have kk : ∀ b o, hp.get? b = some o → ((hp.push (PySem.W.kdv_tup us)).push (PySem.HandSPX.excO C hp.objs.size)).get? b = some o := fun b o e => Heap.get?_push_of_some _ (Heap.get?_push_of_some _ e)
  have hget : ((hp.push (PySem.W.kdv_tup us)).push (PySem.HandSPX.excO C hp.objs.size)).get? (hp.objs.size + 1) = some (PySem.HandSPX.excO C hp.objs.size) := by heap_get
  have I2 : Inv X pins σ (upd H1 (hp.objs.size + 1) (exo (hp.objs.size + 1) C none)) ⟨(hp.push (PySem.W.kdv_tup us)).push (PySem.HandSPX.excO C hp.objs.size), g, dr, tk, os⟩ :=
    I1.laid (t' := tk) (a := hp.objs.size + 1) (o := exo (hp.objs.size + 1) C none) (h' := (hp.push (PySem.W.kdv_tup us)).push (PySem.HandSPX.excO C hp.objs.size)) kk hsz (exo_ok hget)
  have r2 : Vals (V.ref (hp.objs.size + 1) :: vs) (Value.ref (hp.objs.size + 1) :: us) := .cons rfl r1
  have hl : (Value.ref (hp.objs.size + 1) :: us ++ []).length = ps.length := by
    have e := r2.length
    rw [F1.len _ _ _ _ hq] at e
    rw [List.append_nil]
    exact e.symm
  have hus : us.length ≤ sizeLine := by
    rw [← Paired.length r1, sizeLine_eq]
    omega
  have hbb := hb _ (Value.ref (hp.objs.size + 1) :: us) I2.kIn hl
  rw [List.append_nil] at hbb
  refine wpAny_call (PySem.HandSPX.call_own F.excBase_ValueError (fun Y => PySem.HandSPX.refsVE_contains Y bm hbm) (I1.kIn _ _ hC) (PySem.W.looks_findIn I1.kIn iC) (fun self => PySem.W.bind_fn I1.kIn self tI) hus
    (codeAny_mono (F1.run _ X.stack _ _ ⟨Value.ref (hp.objs.size + 1) :: us, []⟩ (Value.ref (hp.objs.size + 1) :: us) _ _ (fun _ _ _ => False) (hr.make C us []) (I2.env0.make C us []) hbb r2 hq) fun r s' hq' => ?_))
  cases r with
  | error er => exact hx pins σ _ _ er s' I2 hq'
  | ok fl =>
    cases fl with
    | ret u =>
      obtain ⟨v, H2, os2, bare2, un2, hok2, rv, ev, q2⟩ := hq'
      subst ev
      obtain ⟨h2, g2, d2, t2, os'⟩ := s'
      rcases q2 with ⟨d, fs, ea, ed, hd1, q2⟩ | ⟨ea, q2⟩
      · exact ⟨rv, mk_endZ (raises_own T.exC T.tyC) I1 hsz kk un2 hok2 os2 bare2 ea ed hd1 q2⟩
      · exact ⟨rv, mk_endN (raises_own T.exC T.tyC) I1 hsz kk un2 hok2 os2 bare2 ea q2⟩
    | next => exact False.elim hq'
    | brk => exact False.elim hq'
    | cont => exact False.elim hq'
end
def spE (C : Addr) (N ps : List Str) (fl : List (Str × Nat)) : Sp := fun vs H Q _ => vs.length = ps.length ∧ ∃ a ws, vs = .ref a :: ws ∧ H a = some (exo a C none) ∧ (fl = [] → Q .non H) ∧
  (fl ≠ [] → ∀ dx, H dx = none → dx ≠ a → Q .non (upd (upd H a (exo a C (some dx))) dx (exd dx (ostV (start N vs) fl).reverse)))
end L2
namespace L2
open PySem PySem.Spec PyProof.Rows
theorem exc_fn {g : FI.Gm} {k : Nat} {f cda cc C : Addr} {slf : Str} {name qual : Str} {params : Arguments} {scope : Scope} {dV kV doc pm ct oc : Value} {an od : Option Addr} {osl : Array (Option Value)} {N ps : List Str} {fl : List (Str × Nat)} {txt : Str} {e : Expr} {es : List Expr} {p0 p1 apos pos spos : Pos} {rest : List Stmt}
    (lk : g.K.lookup f = some ⟨oc, od, .func (PySem.W.ksFn name qual params (.Expr (.Call (.Attribute (.Call (.Name "super" p0) [] [] p1) "__init__" apos) (e :: es) [] pos) spos :: rest) scope dV kV doc pm an (.ref cda) ct cc), osl⟩) (hcd : PySem.W.codeIn g.K (.ref cda) qual = true) (S : SupScope N ps scope)
    (T : OexC g.K C) (M : SupE g.K C C) (SF : SupF g.P g.K g.mg f cda cc C slf)
    (hmsg : ∀ X, FI.XIs g { N := N, sc := scope, k := k, ow := fun x => x != clsN } X → PA X (e :: es) (fun σ H K => K [.str txt] H))
    (hrest : ∀ X, FI.XIs g { N := N, sc := scope, k := k, ow := fun x => x != clsN } X → PSs X rest (tOsts X.K fl)) (hfl : ∀ p ∈ fl, PySem.W.findIn g.K (.ref C) p.1 = some none ∧ p.2 < ps.length) (hsmall : fl.length ≤ 800)
    (hp0 : N[0]? = some slf) (hks : scope.names.lookup ("super" : Str) = some .globalImplicit) (hself : scope.names.lookup slf = some .local) (hcd' : (slf == ("__classdict__" : Str)) = false)
    (hsw : ∀ env, swapsWith (.Call (.Attribute (.Call (.Name "super" p0) [] [] p1) "__init__" apos) (e :: es) [] pos) none spos.line env = pure false)
    (hst : ∀ env, starEach (e :: es) env = (false, eval e env) :: starEach es env) (hpl : ∀ env, (backTo pos (starEach es env)).any (·.1) = false)
    (hev : ∀ env, ∃ pl, eval (.Call (.Attribute (.Call (.Name "super" p0) [] [] p1) "__init__" apos) (e :: es) [] pos) env = (do
      let ov ← attributeBase (.Call (.Name "super" p0) [] [] p1) "__init__" env (eval (.Call (.Name "super" p0) [] [] p1) env)
      standAt apos.atName
      let (f, first) ← holding [ov] (getMethod ov "__init__" pl)
      callWith pos f first (backTo pos (starEach (e :: es) env)) [])) (h0 : g.hx = none := by rfl) :
    FnOk g.P g.w g.K g.mg g.base (L2N.CX g.P g.w) (k + 1) f (PySem.W.ksFn name qual params (.Expr (.Call (.Attribute (.Call (.Name "super" p0) [] [] p1) "__init__" apos) (e :: es) [] pos) spos :: rest) scope dV kV doc pm an (.ref cda) ct cc) ps (spE C N ps fl) := by
  refine fn_sup lk hcd S SF.cell (fun vs H Q E h => h.1) fun A outer s H vs Q E hr h => ?_
  obtain ⟨hl, a, ws, rfl, ha, q0, q1⟩ := h
  have X1 : FI.XIs g { N := N, sc := scope, k := k, ow := fun x => x != clsN } (scx (L2N.CX g.P g.w) g.P g.w g.K g.mg g.base N qual scope f (.ref cda) cc A outer s H E) :=
    ⟨rfl, rfl, rfl, rfl, rfl, rfl, rfl, S.nd, fun _ => rfl, fun _ => hr, hr.un, hr.dp, (fun q e => by rw [h0] at e; cases e), passes_of rfl, fun x h => .inl h, fun _ => ⟨rfl, rfl⟩, fun z => nomatch z⟩
  have hpl' : ps.length ≤ N.length := by have := congrArg List.length S.pre; rw [List.length_take] at this; omega
  have hst0 : (start N (.ref a :: ws))[0]? = some (some (.ref a)) := rfl
  refine ⟨_, pssAt_cons (psat_superE (i := 0) ⟨name, qual, params, _, scope, dV, kV, doc, pm, an, ct, oc, od, osl, _, lk, rfl⟩ SF M T (hmsg _ X1) hks S.cls ⟨_, rfl⟩ S.ncl hp0 hself hcd' (hsw _) (hst _) (hpl _) (hev _)) (hrest _ X1).at, ?_⟩
  refine ⟨a, hst0, ha, by show 1 ≤ 1000; decide, ha, ?_⟩
  cases fl with
  | nil => exact q0 rfl
  | cons p fl =>
    obtain ⟨f0, j0⟩ := p
    refine read_osts T (fun p hp => ⟨(hfl p hp).1, ?_⟩) hst0 ha (by simp at hsmall; omega) fun dx hdx hne => q1 (by simp) dx hdx hne
    have hj := (hfl p hp).2
    have hlt : p.2 < (V.ref a :: ws).length := by rw [hl]; exact hj
    unfold start
    rw [List.getElem?_append_left (by simpa using hlt), List.getElem?_map, List.getElem?_eq_getElem hlt]
    exact ⟨_, rfl⟩
end L2
namespace FI
open PySem L2 PySem.Spec PyProof.Rows
structure ExcOk (g : Gm) (k : Nat) (x : Str) (c np : Nat) (fln : List (Nat × Nat)) : Prop where
  T : OexC g.K (g.cls c)
  mg : g.mg x = some (.ref (g.cls c))
  fn : ∃ fI fd ps N, PySem.W.findIn g.K (.ref (g.cls c)) "__init__" = some (some (.ref fI)) ∧ PySem.W.typeIn g.K (.ref fI) = some (.type "function") ∧ Binds g.K fd ps [] ∧ ps.length = np + 1 ∧ np + 1 ≤ N.length ∧
    FnOk g.P g.w g.K g.mg g.base (L2N.CX g.P g.w) k fI fd ps (spE (g.cls c) N ps (fln.map fun p => (g.fld p.1, p.2)))
  fl : ∀ p ∈ fln, p.1 < g.nf ∧ 1 ≤ p.2 ∧ p.2 ≤ np
def mkEx (c : Nat) (fln : List (Nat × Nat)) (ds : List D) : Exc := ⟨c, (fln.map fun p => (p.1, ds.getD (p.2 - 1) .non)).reverse⟩
def sRaise (c np : Nat) (fln : List (Nat × Nat)) (fa : SA) : SS := fun gs G => match fa gs G with
  | some (.val ds, G1) => if ds.length = np ∧ np ≤ 900 then some (.ex (mkEx c fln ds), gs, G1) else none
  | _ => none
section
variable {g : Gm} {c0 : Sc} {k c np : Nat} {x : Str} {fln : List (Nat × Nat)} {e : Expr} {es : List Expr} {fa : SA} {p pos rpos : Pos}
theorem rel_fields {ι : List Addr} {H : Hp} {N : List Str} {a : Addr} {ds : List D} {ws : List V} (r : RelDs g ι H ds ws) : ∀ (fl : List (Nat × Nat)), (∀ q ∈ fl, q.1 < g.nf ∧ 1 ≤ q.2 ∧ q.2 ≤ ds.length) →
    RelFs g ι H (fl.map fun q => (q.1, ds.getD (q.2 - 1) .non)) (ostV (L2.start N (.ref a :: ws)) (fl.map fun q => (g.fld q.1, q.2)))
  | [], _ => .nil
  | (n, j) :: fl, h => by
    obtain ⟨h1, h2, h3⟩ := h (n, j) (List.mem_cons_self ..)
    have h2' : 1 ≤ j := h2
    have h3' : j ≤ ds.length := h3
    refine .cons h1 ?_ (rel_fields r fl fun q hq => h q (List.mem_cons_of_mem _ hq))
    have hlt : j - 1 < ds.length := by omega
    obtain ⟨v, hv, rv⟩ := r.get (i := j - 1) (d := ds[j - 1]) (List.getElem?_eq_getElem hlt)
    have e1 : ds.getD (j - 1) .non = ds[j - 1] := by rw [List.getD_eq_getElem?_getD, List.getElem?_eq_getElem hlt]; rfl
    have e2 : (L2.start N (.ref a :: ws))[j]? = some (some v) := by
      unfold L2.start
      obtain ⟨j', rfl⟩ : ∃ j', j = j' + 1 := ⟨j - 1, by omega⟩
      have hv' : ws[j']? = some v := by simpa using hv
      have hl2 : j' < ws.length := (List.getElem?_eq_some_iff.mp hv').1
      rw [List.getElem?_append_left (by simp; omega), List.getElem?_map, List.getElem?_cons_succ, hv']
      rfl
    show RelD g ι H (ds.getD (j - 1) .non) (((L2.start N (.ref a :: ws))[j]?).join.getD .non)
    rw [e1, e2]
    exact rv
theorem RelFs.rev {ι : List Addr} {H : Hp} {r : List (Nat × D)} {q : List (Str × V)} (h : RelFs g ι H r q) : RelFs g ι H r.reverse q.reverse := by
  have app : ∀ {r r' : List (Nat × D)} {q q' : List (Str × V)}, RelFs g ι H r q → RelFs g ι H r' q' → RelFs g ι H (r ++ r') (q ++ q') := by
    intro r r' q q' h h'
    induction h with
    | nil => exact h'
    | cons hk a _ ih => exact .cons hk a ih
  induction h with
  | nil => exact .nil
  | cons hk a _ ih =>
    rw [List.reverse_cons, List.reverse_cons]
    exact app ih (.cons hk a .nil)
theorem stp_exc {ι : List Addr} {H : Hp} {a dx : Addr} {fs : List (Str × V)} {C : Addr} (ha : H a = none) (hd : H dx = none) : Stp g ι H ι (upd (del (upd (upd H a (exo a C (some dx))) dx (exd dx fs)) a) dx (.xd fs)) ∧ ∀ b, H b ≠ none → upd (del (upd (upd H a (exo a C (some dx))) dx (exd dx fs)) a) dx (.xd fs) b = H b := by
  have key : ∀ b, H b ≠ none → upd (del (upd (upd H a (exo a C (some dx))) dx (exd dx fs)) a) dx (.xd fs) b = H b := fun b hb => by
    have h1 : b ≠ dx := fun e => hb (by rw [e]; exact hd)
    have h2 : b ≠ a := fun e => hb (by rw [e]; exact ha)
    rw [upd_ne h1, del_ne h2, upd_ne h1, upd_ne h2]
  exact ⟨⟨⟨[], by simp⟩, fun b xs h => by rw [key b (by rw [h]; simp)]; exact h, fun b o u h => by rw [key b (by rw [h]; simp)]; exact h, fun b fs h => by rw [key b (by rw [h]; simp)]; exact h⟩, key⟩
theorem exc_read {ι : List Addr} {G : Hh} {H : Hp} {W : WX} {σ : L2.St} {ds : List D} {vs : List V} (E : ExcOk g k x c np fln) (sh : SimH g ι G H) (r : RelDs g ι H ds vs) (hl : ds.length = np) (h : ∀ ι' H' cv d, Stp g ι H ι' H' → SimH g ι' G H' → RelX g ι' H' (mkEx c fln ds) cv d → W cv d σ H') {N ps : List Str} (hps : ps.length = np + 1) (a : Addr) (ha : H a = none) :
    spE (g.cls c) N ps (fln.map fun p => (g.fld p.1, p.2)) (.ref a :: vs) (upd H a (exo a (g.cls c) none)) (fun v H2 => v = .non ∧ ((∃ (d : Addr) (fs : List (Str × V)), H2 a = some (exo a (g.cls c) (some d)) ∧ H2 d = some (exd d fs) ∧ H d = none ∧ W (.ref (g.cls c)) (some d) σ (upd (del H2 a) d (.xd fs))) ∨ (H2 = upd H a (exo a (g.cls c) none) ∧ W (.ref (g.cls c)) none σ H))) (fun _ _ _ => False) := by
  refine ⟨by rw [hps, ← hl, r.length]; rfl, a, vs, rfl, upd_same, fun e => ⟨rfl, .inr ⟨rfl, ?_⟩⟩, fun e dx hdx hne => ⟨rfl, .inl ⟨dx, _, ?_, upd_same, ?_, ?_⟩⟩⟩
  · have hf : fln = [] := by simpa using e
    exact h ι H _ _ (.refl _ _ _) sh ⟨rfl, .inl ⟨by rw [hf]; rfl, rfl⟩⟩
  · rw [upd_ne (Ne.symm hne)]; exact upd_same
  · rw [upd_ne hne] at hdx; exact hdx
  · have hdx' : H dx = none := by rw [upd_ne hne] at hdx; exact hdx
    have e1 : upd (upd H a (exo a (g.cls c) none)) a (exo a (g.cls c) (some dx)) = upd H a (exo a (g.cls c) (some dx)) := by
      funext b
      by_cases hb : b = a
      · rw [hb, upd_same, upd_same]
      · rw [upd_ne hb, upd_ne hb, upd_ne hb]
    rw [e1]
    obtain ⟨st, key⟩ := stp_exc (g := g) (ι := ι) (C := g.cls c) (fs := (ostV (L2.start N (.ref a :: vs)) (fln.map fun p => (g.fld p.1, p.2))).reverse) ha hdx'
    refine h ι _ _ _ st (sh.keep st fun b hb => key b fun z => sh.fresh z hb) ⟨rfl, .inr ⟨dx, _, rfl, upd_same, ?_⟩⟩
    have rf := rel_fields (N := N) (a := a) r fln (fun q hq => by rw [hl]; exact E.fl q hq)
    exact (rf.rev).mono st
theorem raise_core {X : Cx} (i : XIs g c0 X) (E : ExcOk g k x c np fln) (hk : k + 1 ≤ c0.k ∧ c0.hot = false) {pins : List (Addr × Obj)} {σ : L2.St} {s1 : Shared} {us : List Value} {vs : List V} {ds : List D} {ι1 : List Addr} {G1 : Hh} {H1 : Hp} {Q : XK} (I1 : Inv X pins σ H1 s1) (r1 : Vals vs us)
    (sh1 : SimH g ι1 G1 H1) (rd1 : RelDs g ι1 H1 ds vs) (hl : ds.length = np) (h900 : np ≤ 900) (hx : ∀ ι' H' cv d, Stp g ι1 H1 ι' H' → SimH g ι' G1 H' → RelX g ι' H' (mkEx c fln ds) cv d → Q cv d H') : wpAny (model X.prog X.w) X.A (call (.ref (g.cls c)) us) (L2N.MkP X pins σ Q) X.xe s1 := by
  obtain ⟨fI, fd, ps, N, iC, tI, hb, hps, hN, F1⟩ := E.fn
  rw [← i.K] at iC tI hb
  have T : OexC X.K (g.cls c) := by rw [i.K]; exact E.T
  rw [← i.P, ← i.w, ← i.K, ← i.mg, ← i.base] at F1
  exact mk_core T iC tI F1 ((i.room hk.2).mono hk.1) hb passN I1 r1 (by rw [← rd1.length, hl]; omega) fun a ha => by
    have z := exc_read (W := fun cv d _ H' => Q cv d H') (σ := σ) E sh1 rd1 hl hx hps (N := N) a ha
    exact z
theorem fs_raise (E : ExcOk g k x c np fln) (hk : k + 1 ≤ c0.k ∧ c0.hot = false) (ha : FA g c0 (e :: es) fa) (hg : GlS c0 x := by rfl) (hdb : (x == ("__debug__" : Str)) = false := by decide) (he : ∀ env, starEach (e :: es) env = (false, eval e env) :: starEach es env := by intro _; rfl)
    (hpl : ∀ env, (backTo pos (starEach es env)).any (·.1) = false := by intro _; rfl) : FS g c0 (.Raise (some (.Call (.Name x p) (e :: es) [] pos)) none rpos) (sRaise c np fln fa) := ⟨fun X i W t => by
  have hm' : X.mg x = some (.ref (g.cls c)) := by rw [i.mg]; exact E.mg
  have T : OexC X.K (g.cls c) := by rw [i.K]; exact E.T
  have mk : L2N.PMk X (.Call (.Name x p) (e :: es) [] pos) (fun σ H Q => tA g (fun _ _ _ _ => False) fa σ H fun vs H1 => ∃ ι1 ds G1, SimH g ι1 G1 H1 ∧ RelDs g ι1 H1 ds vs ∧ ds.length = np ∧ np ≤ 900 ∧ ∀ ι' H' cv d, Stp g ι1 H1 ι' H' → SimH g ι' G1 H' → RelX g ι' H' (mkEx c fln ds) cv d → Q cv d H') := by
    intro pins s σ H Q I h
    refine wpAny_Call_Name_kw (ld_glob I (hg.gl i) hm' ?_ hdb)
    refine PySem.W.callWith_K (h₀ := X.base) I.ok.mod.kin T.kC (thn ((ha.run X i _ takesN0).run pos pins s σ H _ I h) fun us s1 ⟨vs, H1, I1, r1, ι1, ds, G1, sh1, rd1, hl, h900, hx⟩ => ⟨I1.kIn, ?_⟩) (he _) (hpl _)
    exact raise_core i E hk I1 r1 sh1 rd1 hl h900 hx
  refine ps_imp (L2N.ps_raise (i.calm hk.2) t mk) fun D0 σ H ⟨ι, gs, G, ss, sh, q⟩ => ?_
  unfold sRaise at q
  cases e1 : fa gs G with
  | none => rw [e1] at q; exact q.no
  | some p1 =>
    obtain ⟨r1, G1⟩ := p1
    cases r1 with
    | exc _ => rw [e1] at q; exact q.no
    | val ds =>
      rw [e1] at q
      dsimp only at q
      by_cases hc : ds.length = np ∧ np ≤ 900
      · rw [if_pos hc] at q
        refine ⟨ι, gs, G, ss, sh, .val ds, G1, e1, fun ι1 H1 s1 t1 vs rs => ⟨ι1, ds, G1, t1, rs, hc.1, hc.2, fun ι' H' cv d st sm rx => ?_⟩⟩
        exact q.at (σ' := σ) (s1.trans st) sm (ss.mono (s1.trans st)) cv d rx
      · rw [if_neg hc] at q; exact q.no⟩
end
end FI
set_option maxRecDepth 100000
set_option maxHeartbeats 2000000
namespace FI
open PySem L2 PySem.Spec PyProof.Rows
abbrev Hx := Nat × Addr × Value × Option Addr × Exc
abbrev Gm.han (g : Gm) (q : Hx) : Gm := { g with hx := some q }
abbrev Sc.hotted (c : Sc) : Sc := { c with hot := true }
section
variable {g : Gm} {q : Hx} {ι : List Addr} {H : Hp}
mutual
theorem RelD.toH : ∀ {d : D} {v : V}, RelD g ι H d v → RelD (g.han q) ι H d v
  | _, _, .non => .non
  | _, _, .bl b => .bl b
  | _, _, .int i => .int i
  | _, _, .str x => .str x
  | _, _, .tup h r => .tup h (RelDs.toH r)
  | _, _, .kt h r => .kt h (RelDs.toH r)
  | _, _, .kl h r => .kl h (RelDs.toH r)
  | _, _, .ref h => .ref h
  | _, _, .glb h => .glb h
  | _, _, .ty n => .ty n
  | _, _, .xo h1 h2 h0 h3 h4 h5 h6 r => .xo (g := g.han q) h1 h2 h0 h3 h4 h5 h6 (RelDs.toH r)
theorem RelDs.toH : ∀ {ds : List D} {vs : List V}, RelDs g ι H ds vs → RelDs (g.han q) ι H ds vs
  | _, _, .nil => .nil
  | _, _, .cons a b => .cons (RelD.toH a) (RelDs.toH b)
end
mutual
theorem RelD.ofH : ∀ {d : D} {v : V}, RelD (g.han q) ι H d v → RelD g ι H d v
  | _, _, .non => .non
  | _, _, .bl b => .bl b
  | _, _, .int i => .int i
  | _, _, .str x => .str x
  | _, _, .tup h r => .tup h (RelDs.ofH r)
  | _, _, .kt h r => .kt h (RelDs.ofH r)
  | _, _, .kl h r => .kl h (RelDs.ofH r)
  | _, _, .ref h => .ref h
  | _, _, .glb h => .glb h
  | _, _, .ty n => .ty n
  | _, _, .xo h1 h2 h0 h3 h4 h5 h6 r => .xo (g := g) h1 h2 h0 h3 h4 h5 h6 (RelDs.ofH r)
theorem RelDs.ofH : ∀ {ds : List D} {vs : List V}, RelDs (g.han q) ι H ds vs → RelDs g ι H ds vs
  | _, _, .nil => .nil
  | _, _, .cons a b => .cons (RelD.ofH a) (RelDs.ofH b)
end
theorem RelKv.toH {κ : Type} {r : List (κ × D)} {p : List (κ × V)} (h : RelKv g ι H r p) : RelKv (g.han q) ι H r p := by
  induction h with
  | nil => exact .nil
  | cons a _ ih => exact .cons a.toH ih
theorem RelKv.ofH {κ : Type} {r : List (κ × D)} {p : List (κ × V)} (h : RelKv (g.han q) ι H r p) : RelKv g ι H r p := by
  induction h with
  | nil => exact .nil
  | cons a _ ih => exact .cons a.ofH ih
theorem RelFs.toH {r : List (Nat × D)} {p : List (Str × V)} (h : RelFs g ι H r p) : RelFs (g.han q) ι H r p := by
  induction h with
  | nil => exact .nil
  | cons hk a _ ih => exact RelFs.cons (g := g.han q) hk a.toH ih
theorem RelFs.ofH {r : List (Nat × D)} {p : List (Str × V)} (h : RelFs (g.han q) ι H r p) : RelFs g ι H r p := by
  induction h with
  | nil => exact .nil
  | cons hk a _ ih => exact RelFs.cons (g := g) hk a.ofH ih
theorem RelO.toH {o : O} {u : HO} (h : RelO g ι H o u) : RelO (g.han q) ι H o u := by
  cases h with
  | lst a => exact .lst a.toH
  | dK a => exact .dK a.toH
  | dT a => exact .dT a.toH
  | dF a => exact .dF a.toH
  | ins a => exact RelO.ins (g := g.han q) a.toH
theorem RelO.ofH {o : O} {u : HO} (h : RelO (g.han q) ι H o u) : RelO g ι H o u := by
  cases h with
  | lst a => exact .lst a.ofH
  | dK a => exact .dK a.ofH
  | dT a => exact .dT a.ofH
  | dF a => exact .dF a.ofH
  | ins a => exact RelO.ins (g := g) a.ofH
theorem SimH.toH {G : Hh} (s : SimH g ι G H) : SimH (g.han q) ι G H := ⟨s.len, s.nd, fun n o a h1 h2 => let ⟨u, e, r⟩ := s.at_ n o a h1 h2; ⟨u, e, r.toH⟩⟩
theorem SimH.ofH {G : Hh} (s : SimH (g.han q) ι G H) : SimH g ι G H := ⟨s.len, s.nd, fun n o a h1 h2 => let ⟨u, e, r⟩ := s.at_ n o a h1 h2; ⟨u, e, r.ofH⟩⟩
theorem RelX.toH {x : Exc} {c : Value} {d : Option Addr} (h : RelX g ι H x c d) : RelX (g.han q) ι H x c d := by
  obtain ⟨h1, h2⟩ := h
  refine ⟨h1, ?_⟩
  rcases h2 with h2 | ⟨dd, vfs, e, h3, h4⟩
  · exact .inl h2
  · exact .inr ⟨dd, vfs, e, h3, h4.toH⟩
theorem Stp.ofH {ι' : List Addr} {H' : Hp} (s : Stp (g.han q) ι H ι' H') : Stp g ι H ι' H' := ⟨s.pre, s.tup, s.frz, s.xd⟩
theorem Stp.toH {ι' : List Addr} {H' : Hp} (s : Stp g ι H ι' H') : Stp (g.han q) ι H ι' H' := ⟨s.pre, s.tup, s.frz, s.xd⟩
theorem SimS.enter {gs : Sg} {σ : L2.St} {i : Nat} {a : Addr} {cv : Value} {d : Option Addr} {x : Exc} (s : SimS g ι H gs σ) (hi : i < gs.length) (rx : RelX g ι H x cv d) : SimS (g.han (i, a, cv, d, x)) ι H (gs.set i none) (σ.set i (some (.ref a))) := by
  refine ⟨by simp [s.len], fun j e hj => ?_, fun q e => ?_⟩
  · by_cases hij : i = j
    · subst hij
      rw [List.getElem?_set_self hi] at hj
      cases hj
    · rw [List.getElem?_set_ne hij] at hj
      obtain ⟨w, h1, h2⟩ := s.at_ j e hj
      exact ⟨w, by rw [List.getElem?_set_ne hij]; exact h1, h2.toH⟩
  · cases e
    exact ⟨List.getElem?_set_self hi, List.getElem?_set_self (by rw [← s.len]; exact hi), rx.toH⟩
theorem SimS.leave (h0 : g.hx = none) {gs : Sg} {σ : L2.St} (i : Nat) (s : SimS (g.han q) ι H gs σ) : SimS g ι H (gs.set i none) (σ.set i none) := by
  refine ⟨by simp [s.len], fun j e hj => ?_, fun q e => by rw [h0] at e; cases e⟩
  by_cases hij : i = j
  · subst hij
    rw [List.getElem?_set_self'] at hj
    cases h1 : gs[i]? with
    | none => rw [h1] at hj; cases hj
    | some y => rw [h1] at hj; cases hj
  · rw [List.getElem?_set_ne hij] at hj
    obtain ⟨w, h1, h2⟩ := s.at_ j e hj
    exact ⟨w, by rw [List.getElem?_set_ne hij]; exact h1, h2.ofH⟩
end
structure CatchOk (g : Gm) (xn : Str) (ct : List (Nat × Bool)) : Prop where
  ex : ∃ cv, (g.mg xn = some cv ∨ (g.mg xn = none ∧ bootBuiltins xn = some cv ∧ xn ≠ "__name__")) ∧ ∀ c b, ct.lookup c = some b → PySem.W.exmOne g.K (.ref (g.cls c)) cv = some b
def endS (i : Nat) : Sm → Sm
  | some (.ex _, _, _) => none
  | some (fl, gs, G) => some (fl, gs.set i none, G)
  | none => none
def sTryAs (ct : List (Nat × Bool)) (i : Nat) (fb : SS) (fsu : Exc → SS) : SS := fun gs G => match fb gs G with
  | some (.ex x, gs1, G1) => match ct.lookup x.c with
    | some true => if i < gs1.length then endS i (fsu x (gs1.set i none) G1) else none
    | some false => some (.ex x, gs1, G1)
    | none => none
  | o => o
section
variable {g : Gm} {c : Sc} {xn n : Str} {ct : List (Nat × Bool)} {body suite : List Stmt} {b₀ : Stmt} {np pos pos' : Pos} {fb : SS} {fsu : Exc → SS} {i : Nat}
theorem fs_tryAs (E : CatchOk g xn ct) (hb : FB g c body fb) (hsu : ∀ (a : Addr) (cv : Value) (d : Option Addr) (x : Exc), FB (g.han (i, a, cv, d, x)) c.hotted (b₀ :: suite) (fsu x)) (hN : c.N[i]? = some n := by rfl) (hln : c.sc.names.lookup n = some .local := by rfl) (hg : GlS c xn := by rfl)
    (hdb : (xn == ("__debug__" : Str)) = false := by decide) (htop : c.top = true := by rfl) (h0 : g.hx = none := by rfl) (hcold : c.hot = false := by rfl) : FS g c (.Try body [.ExceptHandler (some (.Name xn np)) (some n) (b₀ :: suite) pos'] [] [] pos) (sTryAs ct i fb fsu) := ⟨fun X j W tk => by
  obtain ⟨cv, hcv, hcat⟩ := E.ex
  have hnm : Names X xn cv := ⟨hg.gl j, hdb, by
    rcases hcv with h | ⟨h1, h2, h3⟩
    · exact .inl (by rw [j.mg]; exact h)
    · exact .inr ⟨by rw [j.mg]; exact h1, h2, h3⟩⟩
  have hkn : X.env.kindOf n = some .local := by
    show X.env.scope.names.lookup n = _
    rw [j.sc]
    exact hln
  refine ps_imp (L2N.ps_try_as (tb := fun W => tS g W fb) (ts := fun a cls d D σ H => ∃ x, tS (g.han (i, a, cls, d, x)) (fun _ _ _ _ => False) (fsu x) D σ H) (j.tp htop).1 (j.tp htop).2 (by rw [j.N]; exact j.nd) (by rw [j.N]; exact hN) hkn hnm tk (fun W' pn xe tk' po => hb.run (X.tr pn xe) ⟨j.P, j.w, j.K, j.mg, j.base, j.N, j.sc, j.nd, j.calm, j.room, j.un, j.dp, (fun q e => by rw [h0] at e; cases e), po, j.fn, j.tp, (fun z => by rw [hcold] at z; cases z)⟩ W' tk') ?_) ?_
  · intro a oe cls d pn hz hf
    refine ⟨fun pins s σ H D I ⟨x, h⟩ => ?_⟩
    exact ((hsu a cls d x).run (X.suite a ((a, oe) :: pn)) ⟨j.P, j.w, j.K, j.mg, j.base, j.N, j.sc, j.nd, (fun z => nomatch z), (fun z => nomatch z), j.un, j.dp, (fun q e => by cases e; exact ⟨X, oe, pn, rfl, hz, hf⟩), PassesOwn.never, j.fn, j.tp, (fun _ _ z => nomatch z)⟩ _ takesN0).run pins s σ H D I h
  · intro D0 σ H ⟨ι, gs, G, ss, sh, q⟩
    refine ⟨ι, gs, G, ss, sh, ?_⟩
    unfold sTryAs at q
    cases e1 : fb gs G with
    | none => rw [e1] at q; exact q.no
    | some p =>
      obtain ⟨fl, gs1, G1⟩ := p
      rw [e1] at q
      refine ⟨fl, gs1, G1, rfl, fun ι1 H1 σ1 s1 t1 u1 => ?_⟩
      cases fl with
      | nx => exact q.at s1 t1 u1
      | rt d => exact q.at s1 t1 u1
      | bk => exact q.at s1 t1 u1
      | ct => exact q.at s1 t1 u1
      | ex x =>
        intro cx d rx
        dsimp only at q
        have ecx : cx = .ref (g.cls x.c) := rx.1
        cases e2 : ct.lookup x.c with
        | none => rw [e2] at q; exact q.no
        | some b =>
          rw [e2] at q
          refine ⟨b, by rw [ecx, j.K]; exact hcat _ _ e2, fun hb' a ha => ?_, fun hb' => ?_⟩
          · subst hb'
            dsimp only at q
            by_cases hi : i < gs1.length
            · rw [if_pos hi] at q
              refine ⟨x, ι1, gs1.set i none, G1, u1.enter hi rx, t1.toH, ?_⟩
              cases e3 : fsu x (gs1.set i none) G1 with
              | none => rw [e3] at q; exact q.no
              | some p3 =>
                obtain ⟨fl3, gs3, G3⟩ := p3
                rw [e3] at q
                refine ⟨fl3, gs3, G3, rfl, fun ι4 H4 σ4 s4 t4 u4 => ?_⟩
                have st4 := s1.trans s4.ofH
                have su4 := u4.leave h0 i
                cases fl3 with
                | ex x3 => exact q.no
                | nx => exact q.at st4 t4.ofH su4
                | rt d3 => exact fun v rv => (q.at st4 t4.ofH su4) v rv.ofH
                | bk => exact q.at st4 t4.ofH su4
                | ct => exact q.at st4 t4.ofH su4
            · rw [if_neg hi] at q; exact q.no
          · subst hb'
            exact (q.at s1 t1 u1) cx d rx⟩
end
end FI
set_option maxRecDepth 100000
set_option maxHeartbeats 4000000
namespace PySem.W
open PySem PySem.Spec PySem.Calls PyProof.Rows
section
variable {prog : Program} {w : World} {A : Around} {E : Value → Shared → Prop} {s : Shared} {K : Frag} {x D : Addr} {ox : Obj} {od : Option Obj}
theorem fi_findObj_data {C : Addr} {name : Str} {a g : Value} (hc : (clsIn K C).isSome = true) (ha : findIn K (.ref C) name = some (some a)) (hg : specialIn K a "__get__" = some (some g)) (ht : takesIn K a = some true) : findObj K C od name = some (.bind g a) := by
  obtain ⟨cd, hc⟩ := Option.isSome_iff_exists.mp hc
  unfold findObj
  rw [hc, Option.bind_some, ha, Option.bind_some]
  simp [hg, ht]
theorem fi_classE {Q : Option Value → Shared → Prop} (hga : findIn K (.ref D) "__getattribute__" = some (some (.builtin "BaseException.__getattribute__"))) (hgt : findIn K (.ref D) "__getattr__" = some none) (hsub : subIn K (.ref D) (.type "BaseException") = some true)
    (hdct : hasDictIn K D = true) (ha : findIn K (.ref D) "__class__" = some (some (.builtin "object.__class__")))
    (hn : specialIn K (.builtin "object.__class__") "__get__" = some (some (.builtin "getset_descriptor.__get__"))) (htk : takesIn K (.builtin "object.__class__") = some true) (hm : mroIn K D (.type "object") = some true)
    (X : K.In s.heap) (I : InstAt s.heap x ox D od) (h : Q (some (.ref D)) { s with toks := s.toks + 1 }) : wpAny (model prog w) A (getAttr? (.ref x) "__class__") Q E s := by
  have hf : findObj K D od "__class__" = some (.bind (.builtin "getset_descriptor.__get__") (.builtin "object.__class__")) := fi_findObj_data (by obtain ⟨cd, hc, _⟩ := any_some hdct; rw [hc]; rfl) ha hn htk
  obtain ⟨hp, g, d, t, os⟩ := s
  have L0 := I.type (M := model prog w)
  have L1 := looks_findIn (M := model prog w) X hga
  have L2 := looks_findIn (M := model prog w) X hgt
  have L3 := looks_find (M := model prog w) X I hf
  have sub : Looks (model prog w) hp (isInstance (.ref x) (.type "BaseException")) true := L0.andThen (looks_subIn X hsub)
  have hx0 : (false && onTheHeap (Value.builtin "BaseException.__getattribute__")) = false := rfl
  have hx2 : (Value.builtin "BaseException.__getattribute__" == Value.builtin "object.__getattribute__") = false := by decide +kernel
  have hx1 : (onTheHeap (Value.ref D) && Value.builtin "BaseException.__getattribute__" == Value.builtin "object.__getattribute__") = false := by rw [hx2]; rfl
  unfold getAttr? getAttrBy? getAttrBy
  refine wpAny_bind (wpAny_mkText (wpAny_bind (wpAny_attempt (wpAny_holding (wpAny_bind (L0.at (wpAny_bind (L1.at ?_))))))))
  show wpAny _ _ (if (onTheHeap (Value.ref D) && Value.builtin "BaseException.__getattribute__" == Value.builtin "object.__getattribute__") = true then _ else _) _ _ _
  rw [hx1, if_neg Bool.false_ne_true]
  unfold getAttrByItsOwn hookBefore
  refine wpAny_bind ?_
  rw [if_pos (show onTheHeap (Value.ref D) = true from rfl)]
  refine L2.at ?_
  refine wpAny_bind (wpAny_attempt (wpAny_holding ?_))
  unfold callGetattribute
  rw [hx0, if_neg Bool.false_ne_true]
  unfold boundAndCalled
  rw [PySem.F.excAttr_ValueError.ga.bind (.ref x)]
  refine wpAny_bind (wpAny_pure ?_)
  show wpAny _ _ (call (.builtin "BaseException.__getattribute__") [.ref x, .str "__class__" t]) _ _ _
  refine wpAny_call (codeAny_call_builtin PySem.F.excAttr_ValueError.ga.plain PySem.F.entry_bexc_ga ?_)
  refine @check_slot (model prog w) _ _ ⟨hp, g, d, t + 1, os⟩ "BaseException.__getattribute__" "BaseException" "__getattribute__" (.ref x) [.str "__class__" t] [] _ (by decide +kernel) (by decide +kernel) sub (PySem.F.args_bexc_ga (.ref x) (.str "__class__" t)) ?_
  unfold Builtin.«object.__getattribute__»
  refine wpAny_bind (wpAny_of_eq (a := ((Value.ref x : Value), [Value.str "__class__" t])) (by first | rfl | (simp only [slotArgs]; rfl)) ?_)
  refine wpAny_bind (wpAny_pure (wpAny_bind (L0.at (wpAny_bind (L3.at ?_)))))
  show wpAny _ _ (holding [Value.builtin "object.__class__"] (call (.builtin "getset_descriptor.__get__") [.builtin "object.__class__", .ref x, .ref D]) >>= ret) _ _ _
  refine wpAny_bind (wpAny_holding (wpAny_call (class_get (s := ⟨hp, g, d, t + 1, os⟩) (ox := ox) (od := od) X I hm ?_)))
  refine wpAny_pure ?_
  show wpAny _ _ (handedOut (.ref D)) _ _ _
  rw [handedOut_of (v := .ref D) rfl]
  first
    | exact wpAny_pure (wpAny_pure h)
    | exact wpAny_pure h
    | exact wpAny_pure (wpAny_bind (wpAny_pure (wpAny_pure h)))
theorem fi_kitx_exc (hga : findIn K (.ref D) "__getattribute__" = some (some (.builtin "BaseException.__getattribute__"))) (hgt : findIn K (.ref D) "__getattr__" = some none) (hsub : subIn K (.ref D) (.type "BaseException") = some true) (hdct : hasDictIn K D = true) (ha : findIn K (.ref D) "__class__" = some (some (.builtin "object.__class__")))
    (hn : specialIn K (.builtin "object.__class__") "__get__" = some (some (.builtin "getset_descriptor.__get__"))) (htk : takesIn K (.builtin "object.__class__") = some true) (hm : mroIn K D (.type "object") = some true) :
    KitX K (.ref x) (.ref D) (fun h => InstAt h x ox D od) where
  ty := fun _ _ _ I => I.type
  it := fun _ _ X _ => by
    obtain ⟨cdD, hcD, _⟩ := any_some hdct
    unfold clsIn at hcD
    split at hcD
    · rename_i c' d' cd' sl' ho
      intro A' Q' E' s' k q
      unfold isType loadHead
      exact wpAny_bind (wpAny_loadPart (k _ _ (X _ _ ho)) (wpAny_pure q))
    · cases hcD
  ne := fun h tp dd its n sl X htp => by
    obtain ⟨cdD, hcD, _⟩ := any_some hdct
    refine Bool.eq_false_iff.mpr fun q => ?_
    have e : D = tp := Value.ref.inj (beq_iff_eq.mp q)
    subst e
    unfold clsIn at hcD
    split at hcD
    · rename_i c' d' cd' sl' ho
      have z := (X _ _ ho).symm.trans htp
      cases z
    · cases hcD
  ca := fun X I k => fi_classE hga hgt hsub hdct ha hn htk hm X I k
end
end PySem.W
namespace L2
open PySem PySem.Spec PyProof.Rows
def rIsX (K : PySem.W.Frag) (D a : Addr) (d : Option Addr) : List V → Hp → VK → Prop := fun xs H Q => (d = none ∨ ∃ dd fs, d = some dd ∧ H dd = some (.xd fs)) ∧ ∃ (c : V) (cv : Value) (b : Bool), xs = [.ref a, c] ∧ (∀ u, RelV c u → u = cv) ∧ PySem.W.kitOne K (.ref D) cv = some b ∧ Q (.bl b) H
theorem call_isX {X : Cx} {a D : Addr} {d : Option Addr} {oe : Obj} {pn : List (Addr × Obj)} (C : ExcC X.K D) (hz : L2N.Zn (.ref D) d oe) (hf : ∃ vs, oe.data = .fields vs) : CallR (X.suite a ((a, oe) :: pn)) (.builtin "isinstance") (rIsX X.K D a d) := by
  intro pins s σ H xs us Q I r h
  obtain ⟨hd, c, cv, b, rfl, hcv, e, q⟩ := h
  cases r with
  | cons rx rr =>
    cases rr with
    | cons rt rr =>
      cases rr
      cases rx
      have ec := hcv _ rt
      subst ec
      obtain ⟨hget, _⟩ := I.pin (a, oe) (List.mem_append.mpr (.inl List.mem_cons_self))
      obtain ⟨vs, hv⟩ := hf
      have J : ∃ od, PySem.W.InstAt s.heap a oe D od := by
        obtain ⟨oc, odd, oda, osl⟩ := oe
        obtain ⟨h1, h2, -⟩ := hz
        dsimp only at h1 h2 hv
        subst h1 h2 hv
        rcases hd with rfl | ⟨dd, fs, rfl, hfs⟩
        · exact ⟨none, hget, rfl, rfl, trivial⟩
        · have hx : ObjOk X.prog X.w H s.heap dd (.xd fs) := I.hok dd _ hfs
          obtain ⟨mA, hns, hr⟩ := hx
          obtain ⟨od, ho, hl⟩ := lookIn_ns hns
          exact ⟨some od, hget, rfl, rfl, ho⟩
      obtain ⟨od, J⟩ := J
      exact PySem.W.kia_one (PySem.W.fi_kitx_exc C.hg C.hk C.hs C.hd C.ha C.hn C.ht C.hm) I.kIn J e (fun z => nomatch z) fun tk => ⟨.bl b, H, I.kept (t' := tk) fun _ _ z => z, rfl, q⟩
end L2
namespace FI
open PySem L2 PySem.Spec PyProof.Rows
abbrev XKit := List ((Nat × CC) × Bool)
structure XKitOk (g : Gm) (kt : XKit) : Prop where
  one : ∀ e, e ∈ kt → ∃ u, ccV g e.1.2 = some u ∧ PySem.W.kitOne g.K (.ref (g.cls e.1.1)) u = some e.2
  exc : ∀ e, e ∈ kt → ExcC g.K (g.cls e.1.1)
def eIsX (kt : XKit) (x : Exc) (fc : SE) : SE := fun gs G => if x.c ∈ kt.map (·.1.1) then bnd (fc gs G) (fun dc G1 => match ccD dc with
  | some cc => match kt.lookup (x.c, cc) with
    | some b => some (.val (.bl b), G1)
    | none => none
  | none => none) else none
structure XFldOk (g : Gm) (cs : List Nat) (k : Nat) (f : Str) : Prop where
  lt : k < g.nf
  nm : g.fld k = f
  cl : ∀ c, c ∈ cs → XfC g.K (g.cls c) ∧ PySem.W.findIn g.K (.ref (g.cls c)) f = some none
def eXf (cs : List Nat) (k : Nat) (x : Exc) : SE := fun _ G => if x.c ∈ cs then (match x.fs.lookup k with
  | some d => some (.val d, G)
  | none => none) else none
section
variable {g : Gm} {c : Sc} {i : Nat} {a : Addr} {cv : Value} {d : Option Addr} {x : Exc} {n f y : Str} {ce : Expr} {fc : SE} {kt : XKit} {cs : List Nat} {k : Nat} {p p1 pos : Pos}
theorem fe_isX (ok : XKitOk g kt) (hx : g.hx = some (i, a, cv, d, x)) (hc : FE g c ce fc) (hy : bootBuiltins y = some (.builtin "isinstance") := by rfl) (hyn : y ≠ "__name__" := by decide) (hyd : (y == ("__debug__" : Str)) = false := by decide) (hg : GlB g c y)
    (hN : c.N[i]? = some n := by rfl) (hv : Vis c.sc n := by first | exact Or.inl rfl | exact Or.inr (Or.inl rfl) | exact Or.inr (Or.inr rfl)) (hd : (n == ("__debug__" : Str)) = false := by decide) (hcd : (n == ("__classdict__" : Str)) = false := by decide)
    (he : ∀ env, starEach [.Name n p1, ce] env = (false, eval (.Name n p1) env) :: starEach [ce] env := by intro _; rfl) (he2 : ∀ env, starEach [ce] env = (false, eval ce env) :: starEach [] env := by intro _; rfl) (hpl : ∀ env, (backTo pos (starEach [ce] env)).any (·.1) = false := by intro _; rfl) :
    FE g c (.Call (.Name y p) [.Name n p1, ce] [] pos) (eIsX kt x fc) := ⟨fun X j W t => by
  obtain ⟨Y, oe, pn, eX, hz, hf⟩ := j.hx _ hx
  dsimp only at eX hz
  have pv := pe_var (X := X) (i := i) (pos := p1) (by rw [j.N]; exact hN) (by rw [j.sc]; exact hv) hd hcd
  have pc := hc.run X j W t
  have hgl := hg.1.gl j
  have hmg : X.mg y = none := by rw [j.mg]; exact hg.2
  have pas := pa_cons pv (pa_cons pc pa_nil (he2 X.env)) (he X.env)
  refine ⟨fun pins s σ H Q I ⟨ι, gs, G, ss, sh, h⟩ => ?_⟩
  obtain ⟨q1, q2, q3⟩ := ss.hx _ hx
  dsimp only at q1 q2 q3
  obtain rfl : cv = Value.ref (g.cls x.c) := q3.1
  unfold eIsX at h
  by_cases hk : x.c ∈ kt.map (·.1.1)
  · rw [if_pos hk] at h
    obtain ⟨e, he1, he2'⟩ := List.mem_map.mp hk
    have C : ExcC g.K (g.cls x.c) := by rw [← he2']; exact ok.exc e he1
    have hr : CallR X (.builtin "isinstance") (rIsX g.K (g.cls x.c) a d) := by
      have eK : Y.K = g.K := by rw [← j.K, eX]
      rw [eX, ← eK]
      exact call_isX (by rw [eK]; exact C) hz hf
    refine (pe_callB hr hgl hmg hy pas hyn hyd (he _) ?_).run pins s σ H Q I ?_
    · have e1 : backTo pos (starEach [ce] X.env) = backTo pos (starEach [ce] X.env) := rfl
      exact hpl X.env
    · refine ⟨_, q2, ι, gs, G, ss, sh, h.bnd.imp fun dc ι1 G1 H1 s1 t1 h1 v rv => ?_⟩
      refine ⟨?_, ?_⟩
      · rcases q3.2 with ⟨_, q⟩ | ⟨dd, vfs, q, q4, _⟩
        · exact .inl q
        · exact .inr ⟨dd, vfs, q, s1.xd _ _ q4⟩
      · cases e1 : ccD dc with
        | none => rw [e1] at h1; exact h1.no
        | some cc =>
          rw [e1] at h1
          dsimp only at h1
          cases e2 : kt.lookup (x.c, cc) with
          | none => rw [e2] at h1; exact h1.no
          | some b =>
            rw [e2] at h1
            obtain ⟨u, hu, hk1⟩ := ok.one _ (lookup_mem e2)
            have hC := cls_of rv e1 hu
            refine ⟨v, u, b, rfl, fun w rw' => ?_, hk1, h1.val (.refl _ _ _) t1 _ (.bl b)⟩
            cases hC <;> first | exact rw' | (cases rw'; rfl)
  · rw [if_neg hk] at h
    exact h.no⟩
theorem fe_xf (F : XFldOk g cs k f) (hx : g.hx = some (i, a, cv, d, x)) (hN : c.N[i]? = some n := by rfl) (hv : Vis c.sc n := by first | exact Or.inl rfl | exact Or.inr (Or.inl rfl) | exact Or.inr (Or.inr rfl)) (hd : (n == ("__debug__" : Str)) = false := by decide) (hcd : (n == ("__classdict__" : Str)) = false := by decide)
    (hb : ∀ env, attributeBase (.Name n p1) f env (eval (.Name n p1) env) = eval (.Name n p1) env := by intro _; rfl) : FE g c (.Attribute (.Name n p1) f pos) (eXf cs k x) := ⟨fun X j W t => by
  obtain ⟨Y, oe, pn, eX, hz, hf⟩ := j.hx _ hx
  dsimp only at eX hz
  have pv := pe_var (X := X) (i := i) (pos := p1) (by rw [j.N]; exact hN) (by rw [j.sc]; exact hv) hd hcd
  refine ⟨fun pins s σ H Q I ⟨ι, gs, G, ss, sh, h⟩ => ?_⟩
  obtain ⟨q1, q2, q3⟩ := ss.hx _ hx
  dsimp only at q1 q2 q3
  unfold eXf at h
  by_cases hc : x.c ∈ cs
  · rw [if_pos hc] at h
    obtain ⟨h1, h2⟩ := F.cl _ hc
    have eK : Y.K = g.K := by rw [← j.K, eX]
    cases el : x.fs.lookup k with
    | none => rw [el] at h; exact h.no
    | some dv =>
      rw [el] at h
      obtain ⟨ec, q4⟩ := q3
      rcases q4 with ⟨q5, _⟩ | ⟨dd, vfs, q5, q6, q7⟩
      · rw [q5] at el; cases el
      · obtain ⟨v, e1, e2⟩ := q7.look F.lt el
        subst eX
        refine (pe_xf (C := g.cls x.c) (by rw [eK]; exact h1) (by rw [eK]; exact h2) hz.zc hf pv (hb _)).run pins s σ H Q I ⟨_, q2, rfl, ec, dd, vfs, v, q5, q6, by rw [← F.nm]; exact e1, h.val (.refl _ _ _) sh v e2⟩
  · rw [if_neg hc] at h
    exact h.no⟩
end
end FI
set_option maxRecDepth 100000
set_option maxHeartbeats 4000000
namespace FI
open PySem L2 PySem.Spec PyProof.Rows
structure CstOk (g : Gm) (cx f : Str) (d : D) : Prop where
  ex : ∃ C mc v u, g.mg cx = some (.ref C) ∧ ClX.CRead g.K C mc ∧ ClX.CVal g.K C mc f v u ∧ ∀ ι H, RelD g ι H d v
structure StmOk (g : Gm) (k : Nat) (cx m : Str) (F : Fn) : Prop where
  ex : ∃ C mc p f rest, g.mg cx = some (.ref C) ∧ ClX.CRead g.K C mc ∧ PySem.W.findCls g.K (.ref C) mc m = some (.get (.builtin "staticmethod.__get__") (.ref p) .none (.ref C)) ∧ PySem.W.recIn g.K p "staticmethod" = some (.ref f :: rest) ∧
    PySem.W.keepIn g.K (.ref f) = true ∧ CalD g k f [] F
section
variable {g : Gm} {c : Sc} {cx m f : Str} {d : D} {e : Expr} {es : List Expr} {fa : SA} {k : Nat} {F : Fn} {p apos pos : Pos} {pl : Env → Sem Bool}
theorem fe_cst (K : CstOk g cx f d) (hg : GlS c cx := by rfl) (hd : (cx == ("__debug__" : Str)) = false := by decide) (hb : ∀ env, attributeBase (.Name cx p) f env (eval (.Name cx p) env) = eval (.Name cx p) env := by intro _; rfl) : FE g c (.Attribute (.Name cx p) f pos) (eC d) := ⟨fun X i W t => by
  obtain ⟨C, mc, v, u, hm, r, cv, rd⟩ := K.ex
  refine pe_imp (ClX.pe_cval (pe_glob (v := .ref C) (hg.gl i) (by rw [i.mg]; exact hm) rfl hd) (hb _)) fun σ H Q ⟨ι, gs, G, ss, sh, h⟩ => ?_
  rw [i.K]
  exact ⟨C, mc, v, u, rfl, r, cv, h.val (.refl _ _ _) sh _ (rd _ _)⟩⟩
theorem fe_smeth (S : StmOk g k cx m F) (hk : k ≤ c.k ∧ c.hot = false) (ha : FA g c (e :: es) fa) (hg : GlS c cx := by rfl) (hd : (cx == ("__debug__" : Str)) = false := by decide)
    (hst : ∀ env, starEach (e :: es) env = (false, eval e env) :: starEach es env := by intro _; rfl) (hpl : ∀ env, (backTo pos (starEach es env)).any (·.1) = false := by intro _; rfl)
    (ht : ∀ env, eval (.Call (.Attribute (.Name cx p) m apos) (e :: es) [] pos) env = (do
      let ov ← eval (.Name cx p) env
      standAt apos.atName
      let (f, first) ← holding [ov] (getMethod ov m (pl env))
      callWith pos f first (backTo pos (starEach (e :: es) env)) (backToKw pos (keywordEach [] env))) := by intro _; rfl) : FE g c (.Call (.Attribute (.Name cx p) m apos) (e :: es) [] pos) (eCall F fa) := ⟨fun X i W t => by
  obtain ⟨C, mc, sp, f, rest, hm, cr, hf, hp, hkp, cal⟩ := S.ex
  refine ⟨fun pins s σ H Q I ⟨ι, gs, G, ss, sh, h⟩ => ?_⟩
  have hn := pe_glob (X := X) (pos := p) (v := .ref C) (hg.gl i) (by rw [i.mg]; exact hm) rfl hd
  refine PySem.W.methodCall_KW (pl := pl X.env) (thn (hn.run pins s σ H (fun v H1 => v = .ref C ∧ H1 = H) I ⟨rfl, rfl⟩) fun u s1 ⟨v, H1, I1, ru, ev, eH⟩ => ?_) (ht X.env)
  subst ev eH
  obtain rfl : u = Value.ref C := ru
  rw [← i.K] at hf hp hkp cr
  refine PySem.W.method_cls I1.kIn cr.ga (PySem.W.cls_bind I1.kIn cr.rd hf (wpAny_call (PySem.W.sm_get (s := { s1 with toks := s1.toks + 1 }) I1.kIn hp (PySem.W.handed_on rfl ?_))))
  have I2 := I1.tok (s1.toks + 1)
  refine PySem.W.callWith_K (first := []) (h₀ := X.base) I2.ok.mod.kin hkp (thn ((ha.run X i W t).run pos pins _ σ H1 (fun vs H2 => RdF g F (WE W σ) vs H2 Q) I2 ⟨ι, gs, G, ss, sh, h.bnd.imp fun ds ι2 G2 H2 s2 t2 h2 vs rs => ⟨ι2, _, G2, rs, t2, h2.toE⟩⟩) fun us s2 ⟨vs, H2, I3, r, q2⟩ => ⟨I3.kIn, ?_⟩) (hst _) (hpl _)
  exact runC (ks := []) (ws := []) (us := us) (vs := vs) cal i hk t I3 rfl (by rw [List.append_nil]; exact r) q2⟩
end
end FI
set_option maxRecDepth 100000
set_option maxHeartbeats 2000000
set_option maxRecDepth 100000
set_option maxHeartbeats 2000000
set_option maxRecDepth 100000
set_option maxHeartbeats 2000000
set_option maxRecDepth 100000
set_option maxHeartbeats 2000000
set_option maxRecDepth 100000
set_option maxHeartbeats 2000000
namespace FI
open PySem L2 PySem.Spec PyProof.Rows
def CalL (g : Gm) (k : Nat) (f : Addr) (F : Fn) : Prop :=
  ∀ (A : Around) (outer : List Env) (s : Shared) (H : Hp) (us : List Value) (vs : List V) (Q : VK) (E : XK) (pin : Addr × Obj), L2H.RoomH k A → L2H.Hot1 A pin → L2H.PinOk outer H s pin → Env0 g.P g.w g.K g.mg g.base A outer s H → Vals vs us → RdF g F E vs H Q →
    codeAny (model g.P g.w) A (.call (.ref f) ⟨us, []⟩) (CR (L2N.CX g.P g.w) outer g.P g.w H s Q E) s
theorem xis_leaf {g : Gm} {N : List Str} {qual : Str} {scope : Scope} {f : Addr} {cdv : Value} {A : Around} {outer : List Env} {s : Shared} {H : Hp} {E : XK} {k : Nat} {pin : Addr × Obj} (hot1 : L2H.Hot1 A pin) (h0 : g.hx = none) (nd : N.Nodup) (hr : L2H.RoomH k (A.deeper (envOfC qual scope s.heap.objs.size f cdv))) :
    XIs g { N := N, sc := scope, k := k, hot := true } (L2H.cxH (L2N.CX g.P g.w) g.P g.w g.K g.mg g.base N qual scope f cdv A outer s H E pin) where
  P := rfl
  w := rfl
  K := rfl
  mg := rfl
  base := rfl
  N := rfl
  sc := rfl
  nd := nd
  calm := fun z => nomatch z
  room := fun z => nomatch z
  un := hr.un
  dp := hr.dp
  tp := fun _ => ⟨rfl, rfl⟩
  hx := fun q e => by rw [h0] at e; cases e
  hp := fun _ _ _ => ⟨pin, ⟨hot1.1, hot1.2⟩, List.mem_cons_self ..⟩
  po := passes_of rfl
  fn := fun x _ => .inl rfl
section
variable {g : Gm} {k : Nat} {f : Addr} {name qual : Str} {params : Arguments} {body : List Stmt} {scope : Scope} {dV kV doc pm cdv ct oc : Value} {an od : Option Addr} {osl : Array (Option Value)} {N ps : List Str} {b : SS}
theorem leaf_def (hk : g.K.lookup f = some ⟨oc, od, .func (PySem.W.fnOf name qual params body scope dV kV doc pm an cdv ct), osl⟩) (hcode : PySem.W.codeIn g.K cdv qual = true) (S : FnScope N ps scope)
    (bd : ∀ us : List Value, us.length = ps.length → bindArgs (PySem.W.fnOf name qual params body scope dV kV doc pm an cdv ct) ⟨us, []⟩ = pure (ps.zip us)) (hb : FB g { N := N, sc := scope, k := k, hot := true } body b) (h0 : g.hx = none := by rfl) : CalL g (k + 1) f (mkFnB (bPlain ps.length) N.length b) := by
  intro A outer s H us vs Q E pin rm hot1 hp ev0 vals rd
  obtain ⟨ι, ds, G, rs, sh, q⟩ := rd
  unfold mkFnB bPlain at q
  by_cases hn : ds.length = ps.length
  case neg =>
    rw [if_neg hn] at q
    exact q.no
  case pos =>
    rw [if_pos hn] at q
    have nv : vs.length = ps.length := by rw [← rs.length]; exact hn
    have nu : us.length = ps.length := by rw [← vals.length]; exact nv
    have inK : g.K.In s.heap := ev0.mod.kin.keeps fun b o e => (ev0.bs b o e).1
    have bound := Binds.all bd s us inK (by rw [List.append_nil]; exact nu)
    rw [List.append_nil] at bound
    have kinds : ∀ z ∈ ps.zip us, scope.names.lookup z.1 = some .local ∨ (scope.names.lookup z.1 = some .cell ∧ ((cellsFrom (s.heap.objs.size + 1) scope.names []).lookup z.1).isSome = true) := fun z hz =>
      (S.par z.1 (List.of_mem_zip hz).1).imp id fun hc => ⟨hc, PySem.W.cellsFrom_some _ _ _ (.inl hc)⟩
    refine codeAny_call_function rm.depth (inK _ _ hk) rfl S.co S.gen rfl (PySem.W.codeRec_of inK hcode) (bound _ _ _ _ (wpAny_newFunctionEnv_cells S.kind kinds fun env he s1 made => ?_))
    subst he
    have nolim : s1.heap.NoLimit := (ev0.mod.nolimit.keeps fun b o e => (ev0.bs b o e).1).keeps made.toInCall.keep
    have deep : L2H.RoomH k (A.deeper (envOfC qual scope s.heap.objs.size f cdv)) := rm.deeper _
    have start := L2H.inv_startH (CX := L2N.CX g.P g.w) (E := E) S hp ev0 nv vals made
    have body := hb.run _ (xis_leaf (outer := outer) (H := H) (E := E) (pin := pin) hot1 h0 S.nd deep) (fun c d _ H' => E c d H') (L2N.takes_of rfl rfl rfl rfl)
    have read := run_read (N := N) (Q := Q) h0 (.refl g ι H) sh rs (Gv.unslim sh q)
    refine ⟨nolim, codeAny_func (wpAny_mono (body.run [] s1 _ H _ start read) (fun fl s' hs => ?_) fun _ _ z => z)⟩
    cases fl with
    | ret u => obtain ⟨v, σ', H', J, rv, w⟩ := hs; exact ⟨v, H', J.os, J.bare, J.base, J.hok, rv, w⟩
    | next => obtain ⟨σ', H', J, w⟩ := hs; exact ⟨V.non, H', J.os, J.bare, J.base, J.hok, rfl, w⟩
    | brk => obtain ⟨_, _, _, w⟩ := hs; exact w.elim
    | cont => obtain ⟨_, _, _, w⟩ := hs; exact w.elim
end
theorem CalL.mono {g : Gm} {j k : Nat} {f : Addr} {F : Fn} (c : CalL g j f F) (h : j ≤ k) : CalL g k f F := fun A outer s H us vs Q E pin hr => c A outer s H us vs Q E pin (hr.mono h)
structure NamL (g : Gm) (k : Nat) (x : Str) (F : Fn) : Prop where
  ex : ∃ f, g.mg x = some (.ref f) ∧ PySem.W.keepIn g.K (.ref f) = true ∧ CalL g k f F
theorem nam_leaf {g : Gm} {k : Nat} {f : Addr} {x name qual : Str} {params : Arguments} {body : List Stmt} {scope : Scope} {dV kV doc pm cdv ct oc : Value} {an od : Option Addr} {osl : Array (Option Value)} {N ps : List Str} {b : SS} (gl : g.mg x = some (.ref f)) (kp : PySem.W.keepIn g.K (.ref f) = true)
    (hk : g.K.lookup f = some ⟨oc, od, .func (PySem.W.fnOf name qual params body scope dV kV doc pm an cdv ct), osl⟩) (hcode : PySem.W.codeIn g.K cdv qual = true) (S : FnScope N ps scope)
    (bd : ∀ us : List Value, us.length = ps.length → bindArgs (PySem.W.fnOf name qual params body scope dV kV doc pm an cdv ct) ⟨us, []⟩ = pure (ps.zip us)) (hb : FB g { N := N, sc := scope, k := k, hot := true } body b) (h0 : g.hx = none := by rfl) : NamL g (k + 1) x (mkFnB (bPlain ps.length) N.length b) := ⟨⟨f, gl, kp, leaf_def hk hcode S bd hb h0⟩⟩
theorem RdF.ofH {g : Gm} {q : Hx} {F : Fn} {E : XK} {vs : List V} {H : Hp} {Q : VK} (h : RdF (g.han q) F E vs H Q) : RdF g F E vs H Q := by
  obtain ⟨ι, ds, G, rs, sh, r, G', e, z⟩ := h
  refine ⟨ι, ds, G, rs.ofH, sh.ofH, r, G', e, fun ι' H' st sm => ?_⟩
  have y := z ι' H' st.toH sm.toH
  cases r with
  | val d => exact fun v rv => y v rv.toH
  | exc x => exact fun c d rx => y c d rx.toH
section
variable {g : Gm} {c : Sc} {q : Hx} {k : Nat} {x : Str} {F : Fn} {e : Expr} {es : List Expr} {fa : SA} {p pos : Pos}
theorem runL {X : Cx} {W : WX} {f : Addr} {pins : List (Addr × Obj)} {σ : L2.St} {H : Hp} {s : Shared} {us : List Value} {vs : List V} {Q : VK} (C : CalL g k f F) (i : XIs (g.han q) c X) (hk : k ≤ c.k) (tk : L2N.Takes X W)
    (I : Inv X pins σ H s) (r : Vals vs us) (h : RdF (g.han q) F (WE W σ) vs H Q) : wpAny (model X.prog X.w) X.A (call (.ref f) us []) (EP X pins σ Q) X.xe s := by
  obtain ⟨Y, oe, pn, hX, hz, vs', hd⟩ := i.hx q rfl
  have hot1 : L2H.Hot1 X.A (q.2.1, oe) := ⟨by rw [hX]; rfl, vs', hd, hz.2.2 vs' hd⟩
  have mem : (q.2.1, oe) ∈ X.pn := by
    rw [hX]
    exact List.mem_cons_self ..
  have at_ := I.pin (q.2.1, oe) (List.mem_append_left _ mem)
  have pin : L2H.PinOk X.stack H s (q.2.1, oe) := ⟨at_.1, at_.2.1, fun hm => Or.elim (List.mem_cons.mp (I.stkSub q.2.1 hm)) at_.2.2.1 at_.2.2.2.1, at_.2.2.2.2⟩
  have room : L2H.RoomH k X.A := ⟨by have := i.dp; omega, by have := i.un; omega⟩
  have z := C X.A X.stack s H us vs Q (WE W σ) (q.2.1, oe) room hot1 pin (i.env I) r h.ofH
  have eP : X.prog = g.P := i.P
  have ew : X.w = g.w := i.w
  rw [← eP, ← ew] at z
  refine wpAny_call (codeAny_mono z fun r s' hq => ?_)
  cases r with
  | error e => exact tk e s' (L2N.XE.of_call I (fun _ _ _ h => h) hq)
  | ok fl =>
    cases fl with
    | ret u => exact I.after hq
    | next => exact False.elim hq
    | brk => exact False.elim hq
    | cont => exact False.elim hq
theorem fe_callL (n : NamL g k x F) (hk : k ≤ c.k) (ha : FA (g.han q) c (e :: es) fa) (hg : GlS c x := by rfl) (hdb : (x == ("__debug__" : Str)) = false := by decide) (he : ∀ env, starEach (e :: es) env = (false, eval e env) :: starEach es env := by intro _; rfl)
    (hpl : ∀ env, (backTo pos (starEach es env)).any (·.1) = false := by intro _; rfl) : FE (g.han q) c (.Call (.Name x p) (e :: es) [] pos) (eCall F fa) := ⟨fun X i W t => by
  obtain ⟨f, hm, hkp, C⟩ := n.ex
  have hm' : X.mg x = some (.ref f) := by rw [i.mg]; exact hm
  have hkp' : PySem.W.keepIn X.K (.ref f) = true := by rw [i.K]; exact hkp
  refine pe_imp (t := fun σ H Q => tA (g.han q) W fa σ H fun vs H1 => RdF (g.han q) F (WE W σ) vs H1 Q) ⟨fun pins s σ H Q I h => ?_⟩ fun σ H Q ⟨ι, gs, G, ss, sh, h⟩ => ⟨ι, gs, G, ss, sh, h.bnd.imp fun ds ι1 G1 H1 s1 t1 h1 vs rv => ⟨ι1, ds, G1, rv, t1, h1.toE⟩⟩
  refine wpAny_Call_Name_kw (ld_glob I (hg.gl i) hm' ?_ hdb)
  refine PySem.W.callWith_K (h₀ := X.base) I.ok.mod.kin hkp' (thn ((ha.run X i W t).run pos pins s σ H _ I h) fun us s1 ⟨vs, H1, I1, r, q⟩ => ⟨I1.kIn, ?_⟩) (he _) (hpl _)
  exact runL C i hk t I1 r q⟩
end
theorem KitOk.han {g : Gm} {q : Hx} {kt : Kit} (h : KitOk g kt) : KitOk (g.han q) kt := ⟨fun e he => h.one e he, fun e he c hc => h.ins e he c hc⟩
end FI
set_option maxRecDepth 100000
set_option maxHeartbeats 2000000
set_option maxRecDepth 100000
set_option maxHeartbeats 2000000
set_option maxRecDepth 100000
set_option maxHeartbeats 2000000
namespace FI
open PySem L2 PySem.Spec PyProof.Rows
section
variable {g : Gm} {c : Sc} {k : Nat} {x : Str} {F : Fn} {e : Expr} {es : List Expr} {fa : SA} {p pos : Pos}
theorem runLL {X : Cx} {W : WX} {f : Addr} {pins : List (Addr × Obj)} {σ : L2.St} {H : Hp} {s : Shared} {us : List Value} {vs : List V} {Q : VK} (C : CalL g k f F) (i : XIs g c X) (hh : c.hot = true) (ht : c.top = true) (h0 : g.hx = none) (hk : k ≤ c.k) (tk : L2N.Takes X W)
    (I : Inv X pins σ H s) (r : Vals vs us) (h : RdF g F (WE W σ) vs H Q) : wpAny (model X.prog X.w) X.A (call (.ref f) us []) (EP X pins σ Q) X.xe s := by
  obtain ⟨pn, hot1, mem⟩ := i.hp hh ht h0
  have at_ := I.pin pn (List.mem_append_left _ mem)
  have pin : L2H.PinOk X.stack H s pn := ⟨at_.1, at_.2.1, fun hm => Or.elim (List.mem_cons.mp (I.stkSub pn.1 hm)) at_.2.2.1 at_.2.2.2.1, at_.2.2.2.2⟩
  have room : L2H.RoomH k X.A := ⟨by have := i.dp; omega, by have := i.un; omega⟩
  have z := C X.A X.stack s H us vs Q (WE W σ) pn room hot1 pin (i.env I) r h
  have eP : X.prog = g.P := i.P
  have ew : X.w = g.w := i.w
  rw [← eP, ← ew] at z
  refine wpAny_call (codeAny_mono z fun r s' hq => ?_)
  cases r with
  | error e => exact tk e s' (L2N.XE.of_call I (fun _ _ _ h => h) hq)
  | ok fl =>
    cases fl with
    | ret u => exact I.after hq
    | next => exact False.elim hq
    | brk => exact False.elim hq
    | cont => exact False.elim hq
theorem fe_callLL (n : NamL g k x F) (hk : k ≤ c.k) (ha : FA g c (e :: es) fa) (hh : c.hot = true := by rfl) (ht : c.top = true := by rfl) (h0 : g.hx = none := by rfl) (hg : GlS c x := by rfl) (hdb : (x == ("__debug__" : Str)) = false := by decide) (he : ∀ env, starEach (e :: es) env = (false, eval e env) :: starEach es env := by intro _; rfl)
    (hpl : ∀ env, (backTo pos (starEach es env)).any (·.1) = false := by intro _; rfl) : FE g c (.Call (.Name x p) (e :: es) [] pos) (eCall F fa) := ⟨fun X i W t => by
  obtain ⟨f, hm, hkp, C⟩ := n.ex
  have hm' : X.mg x = some (.ref f) := by rw [i.mg]; exact hm
  have hkp' : PySem.W.keepIn X.K (.ref f) = true := by rw [i.K]; exact hkp
  refine pe_imp (t := fun σ H Q => tA g W fa σ H fun vs H1 => RdF g F (WE W σ) vs H1 Q) ⟨fun pins s σ H Q I h => ?_⟩ fun σ H Q ⟨ι, gs, G, ss, sh, h⟩ => ⟨ι, gs, G, ss, sh, h.bnd.imp fun ds ι1 G1 H1 s1 t1 h1 vs rv => ⟨ι1, ds, G1, rv, t1, h1.toE⟩⟩
  refine wpAny_Call_Name_kw (ld_glob I (hg.gl i) hm' ?_ hdb)
  refine PySem.W.callWith_K (h₀ := X.base) I.ok.mod.kin hkp' (thn ((ha.run X i W t).run pos pins s σ H _ I h) fun us s1 ⟨vs, H1, I1, r, q⟩ => ⟨I1.kIn, ?_⟩) (he _) (hpl _)
  exact runLL C i hh ht h0 hk t I1 r q⟩
end
end FI
set_option maxRecDepth 100000
set_option maxHeartbeats 1000000
namespace SrtO
open PySem PySem.Spec PyProof.Rows
def keySI (x : PySem.Str) (n : Int) : List Int := (x.cps.toList.map fun c : Nat => (c : Int) + 1) ++ [0, n]
def IsTupSI (h : Heap) (v : Value) (ks : List Int) : Prop := ∃ a o its nn x n t u, v = .ref a ∧ h.get? a = some o ∧ o.cls = .type "tuple" ∧ o.data = .seq its nn ∧ its.toList = [.str x t, .int n u] ∧ ks = keySI x n
theorem IsTupSI.keeps {h h' : Heap} {v : Value} {ks : List Int} (p : IsTupSI h v ks) (k : ∀ b o, h.get? b = some o → o.cls = .type "tuple" → h'.get? b = some o) : IsTupSI h' v ks := by
  obtain ⟨a, o, its, nn, x, n, t, u, e, ho, hc, r⟩ := p
  exact ⟨a, o, its, nn, x, n, t, u, e, k _ _ ho hc, hc, r⟩
end SrtO
set_option maxRecDepth 100000
set_option maxHeartbeats 2000000
set_option maxRecDepth 100000
set_option maxHeartbeats 2000000
set_option maxRecDepth 100000
set_option maxHeartbeats 2000000
set_option maxRecDepth 100000
set_option maxHeartbeats 4000000
set_option maxRecDepth 100000
set_option maxHeartbeats 4000000
namespace FI
open PySem L2 PySem.Spec PyProof.Rows
def sPar (i j : Nat) (fa : SA) : SS := fun gs G => onE (fa gs G) gs fun ds G1 => match ds with
  | [d, e] => some (.nx, (gs.set i (some d)).set j (some e), G1)
  | _ => none
theorem fs_par {g : Gm} {c : Sc} {x y : Str} {a b : Expr} {fa : SA} {pos px py pt pt2 : Pos} {kt k2} (i j : Nat) (ha : FA g c [a, b] fa) (hi : c.N[i]? = some x := by rfl) (hj : c.N[j]? = some y := by rfl) (hij : i ≠ j := by decide)
    (hx : c.sc.names.lookup x = some .local := by rfl) (hy : c.sc.names.lookup y = some .local := by rfl) (hc : c.hot = false := by rfl)
    (hnx : NoHx g i := by first | exact NoHx.none rfl | exact NoHx.some rfl (by decide)) (hny : NoHx g j := by first | exact NoHx.none rfl | exact NoHx.some rfl (by decide))
    (hw : ∀ env : Env, env.scope = c.sc → swappedStores [.Tuple [.Name x px, .Name y py] kt pt] (.Tuple [a, b] k2 pt2) env = pure (some [x, y]) := by intro env h; cases env; dsimp only at h; subst h; rfl)
    (hs : ∀ env, swapsWithSole [.Tuple [.Name x px, .Name y py] kt pt] (.Tuple [a, b] k2 pt2) pos.line env = pure false := by intro _; rfl) :
    FS g c (.Assign [.Tuple [.Name x px, .Name y py] kt pt] (.Tuple [a, b] k2 pt2) pos) (sPar i j fa) :=
  ⟨fun X w W t => ps_imp (ps_par (w.calm hc) (by rw [w.N]; exact w.nd) (by rw [w.N]; exact hi) (by rw [w.N]; exact hj) hij (by rw [w.sc]; exact hx) (by rw [w.sc]; exact hy) (ha.run X w W t) (hw _ w.sc) (hs _)) fun D0 σ H ⟨ι, gs, G, ss, sh, q⟩ => ⟨ι, gs, G, ss, sh, (q.onE ss).imp fun ds ι1 G1 H1 s1 t1 h1 vs rv => by
    split at h1
    · cases rv with
      | cons r1 rr =>
        cases rr with
        | cons r2 r3 =>
          cases r3
          exact ⟨_, _, rfl, h1.at (.refl _ _ _) t1 (((ss.mono s1).set r1 i hnx).set r2 j hny)⟩
    · exact h1.no⟩⟩
end FI
set_option maxRecDepth 100000
set_option maxHeartbeats 1000000
set_option maxRecDepth 100000
set_option maxHeartbeats 1000000
set_option maxRecDepth 100000
set_option maxHeartbeats 2000000
namespace FI
open PySem L2 PySem.Spec PyProof.Rows
open He (ga ma refsD frG frG_in eqO eqO_ok ba relB relB_ok)
abbrev Fr := PySem.W.Frag
abbrev At := Fr → Addr
def atG (x : Str) : At := fun K => ga K x
def atM (x m : Str) : At := fun K => ma K (ga K x) m
def atR (T : String) (x m : Str) : At := fun K => match PySem.W.recIn K (ma K (ga K x) m) T with
  | some (.ref f :: _) => f
  | _ => 0
abbrev FnA : Type := Option (Str × Str × Arguments × FuncBody × Scope × Addr × List Str × Addr)
def fnA (K : Fr) (a : Addr) : FnA := match K.lookup a with
  | some ⟨_, _, .func fd, _⟩ => some (fd.name, fd.qualname, fd.params, fd.body, fd.scope, fd.globals, fd.closure.map (·.1), fd.builtins)
  | _ => none
structure FDf where
  at_ : At
  name : Str
  qual : Str
  params : Arguments
  body : List Stmt
  scope : Scope
  sup : Option Str := none
def FDf.val (d : FDf) : FnA := some (d.name, d.qual, d.params, .stmts d.body, d.scope, mainGlobals, (match d.sup with
  | none => []
  | some _ => [clsN]), builtinsNs)
def cellB (K : Fr) (cc D : Addr) : Bool := match K.lookup cc with
  | some ⟨_, _, .cell (some (.ref E)), _⟩ => decide (E = D)
  | _ => false
theorem cellB_ok {K : Fr} {cc D : Addr} (h : cellB K cc D = true) : CellK K cc D := by
  unfold cellB at h
  cases q : K.lookup cc with
  | none => rw [q] at h; cases h
  | some o =>
    obtain ⟨oc, od, dt, osl⟩ := o
    rw [q] at h
    cases dt with
    | cell v =>
      cases v with
      | none => cases h
      | some v =>
        cases v with
        | ref E =>
          have e : E = D := of_decide_eq_true h
          subst e
          exact ⟨oc, od, osl, q⟩
        | _ => cases h
    | _ => cases h
def thirdV (vs : Array Value) : Option Value := vs[2]?
def codeFile (K : Fr) (cd : Value) (file : Str) : Bool := match cd with
  | .ref c => (match K.lookup c with
    | some ⟨_, _, .fields vs, _⟩ => (match thirdV vs with
      | some (.str x _) => file == x
      | _ => false)
    | _ => false)
  | _ => false
theorem codeFile_ok {K : Fr} {cd : Value} {file : Str} (h : codeFile K cd file = true) : ∃ cda, cd = .ref cda ∧ ∃ (ccl : Value) (cdd : Option Addr) (vs : Array Value) (ccs : Array (Option Value)) (x : Str) (tf : Tok), K.lookup cda = some ⟨ccl, cdd, .fields vs, ccs⟩ ∧ vs[2]? = some (.str x tf) ∧ (file == x) = true := by
  cases cd with
  | ref c =>
    have h1 : (match K.lookup c with
      | some ⟨_, _, .fields vs, _⟩ => (match thirdV vs with
        | some (.str x _) => file == x
        | _ => false)
      | _ => false) = true := h
    cases q : K.lookup c with
    | none => rw [q] at h1; cases h1
    | some o =>
      obtain ⟨oc, od, dt, osl⟩ := o
      rw [q] at h1
      cases dt with
      | fields vs =>
        dsimp only at h1
        cases e : thirdV vs with
        | none => rw [e] at h1; cases h1
        | some v =>
          rw [e] at h1
          cases v with
          | str x t => exact ⟨c, rfl, oc, od, vs, osl, x, t, q, e, h1⟩
          | _ => cases h1
      | _ => cases h1
  | _ => cases h
def FDf.ok (file : Str) (K : Fr) (d : FDf) : Bool := match K.lookup (d.at_ K) with
  | some ⟨_, _, .func fd, _⟩ => PySem.W.codeIn K fd.code d.qual && ((match fd.defaults with
    | .none => true
    | _ => false) && (match d.sup with
    | none => true
    | some x => (match fd.closure with
      | [(_, cc)] => cellB K cc (ga K x) && codeFile K fd.code file
      | _ => false)))
  | _ => false
def DefAt (K : Fr) (d : FDf) : Prop := ∃ oc od osl kV doc pm an cdv ct, K.lookup (d.at_ K) = some ⟨oc, od, .func (PySem.W.fnOf d.name d.qual d.params d.body d.scope .none kV doc pm an cdv ct), osl⟩ ∧ PySem.W.codeIn K cdv d.qual = true
def SupAt (file : Str) (K : Fr) (d : FDf) (x : Str) : Prop := ∃ oc od osl kV doc pm an cda ct cc, K.lookup (d.at_ K) = some ⟨oc, od, .func (PySem.W.ksFn d.name d.qual d.params d.body d.scope .none kV doc pm an (.ref cda) ct cc), osl⟩ ∧ PySem.W.codeIn K (.ref cda) d.qual = true ∧ CellK K cc (ga K x) ∧
  ∃ (ccl : Value) (cdd : Option Addr) (vs : Array Value) (ccs : Array (Option Value)) (fx : Str) (tf : Tok), K.lookup cda = some ⟨ccl, cdd, .fields vs, ccs⟩ ∧ vs[2]? = some (.str fx tf) ∧ (file == fx) = true
theorem FDf.at1 {file : Str} {K : Fr} {d : FDf} (e : fnA K (d.at_ K) = d.val) (c : d.ok file K = true) (hs : d.sup = none) : DefAt K d := by
  unfold fnA at e
  unfold FDf.ok at c
  unfold FDf.val at e
  rw [hs] at e c
  cases q : K.lookup (d.at_ K) with
  | none => rw [q] at c; cases c
  | some o =>
    obtain ⟨oc, od, dt, osl⟩ := o
    rw [q] at c e
    cases dt with
    | func fd =>
      obtain ⟨n1, n2, n3, n4, n5, n6, n7, n8, n9, n10, n11, n12, n13, n14, n15⟩ := fd
      simp only [Option.some.injEq, Prod.mk.injEq] at e
      obtain ⟨h1, h2, h3, h4, h5, h6, h7, h8⟩ := e
      dsimp only at c
      obtain ⟨c1, c2⟩ := ba c
      obtain ⟨c3, _⟩ := ba c2
      have h7' : n7 = [] := by simpa using h7
      have h8' : n8 = .none := by cases n8 <;> first | rfl | cases c3
      subst h1 h2 h3 h4 h5 h6 h7' h8 h8'
      exact ⟨_, _, _, _, _, _, _, _, _, q, c1⟩
    | _ => cases c
theorem FDf.at2 {file : Str} {K : Fr} {d : FDf} {x : Str} (e : fnA K (d.at_ K) = d.val) (c : d.ok file K = true) (hs : d.sup = some x) : SupAt file K d x := by
  unfold fnA at e
  unfold FDf.ok at c
  unfold FDf.val at e
  rw [hs] at e c
  cases q : K.lookup (d.at_ K) with
  | none => rw [q] at c; cases c
  | some o =>
    obtain ⟨oc, od, dt, osl⟩ := o
    rw [q] at c e
    cases dt with
    | func fd =>
      obtain ⟨n1, n2, n3, n4, n5, n6, n7, n8, n9, n10, n11, n12, n13, n14, n15⟩ := fd
      simp only [Option.some.injEq, Prod.mk.injEq] at e
      obtain ⟨h1, h2, h3, h4, h5, h6, h7, h8⟩ := e
      dsimp only at c
      obtain ⟨c1, c2⟩ := ba c
      obtain ⟨c3, c4⟩ := ba c2
      have h8' : n8 = .none := by cases n8 <;> first | rfl | cases c3
      cases n7 with
      | nil => cases c4
      | cons p r =>
        cases r with
        | cons _ _ => cases c4
        | nil =>
          obtain ⟨nm, cc⟩ := p
          have h7' : nm = clsN := by simpa using h7
          dsimp only at c4
          obtain ⟨c5, c6⟩ := ba c4
          obtain ⟨cda, e13, rest⟩ := codeFile_ok c6
          subst h1 h2 h3 h4 h5 h6 h7' h8 h8' e13
          exact ⟨_, _, _, _, _, _, _, _, _, _, q, c1, cellB_ok c5, rest⟩
    | _ => cases c
abbrev AlM : Type := Bool × List FnA
def obsM (file : Str) (fs : List (Fr → Bool)) (fn : List FDf) (K : Fr) : AlM := ((fs.all fun f => f K) && fn.all fun d => d.ok file K, fn.map fun d => fnA K (d.at_ K))
def valM (fn : List FDf) : AlM := (true, fn.map FDf.val)
def SaysM (file : Str) (fs : List (Fr → Bool)) (fn : List FDf) (K : Fr) : Prop := obsM file fs fn K = valM fn
section
variable {file : Str} {fs : List (Fr → Bool)} {fn : List FDf} {K : Fr}
theorem SaysM.fact (c : SaysM file fs fn K) (i : Nat) {f : Fr → Bool} (h : fs[i]? = some f := by rfl) : f K = true := by
  have c1 := (ba (show ((fs.all fun f => f K) && fn.all fun d => d.ok file K) = true from congrArg (fun z : AlM => z.1) c)).1
  exact List.all_eq_true.mp c1 f (List.mem_of_getElem? h)
theorem SaysM.raw (c : SaysM file fs fn K) (i : Nat) {d : FDf} (h : fn[i]? = some d) : fnA K (d.at_ K) = d.val ∧ d.ok file K = true := by
  have c2 := (ba (show ((fs.all fun f => f K) && fn.all fun d => d.ok file K) = true from congrArg (fun z : AlM => z.1) c)).2
  have e : fn.map (fun d => fnA K (d.at_ K)) = fn.map FDf.val := congrArg (fun z : AlM => z.2) c
  have e2 : (fn.map fun d => fnA K (d.at_ K))[i]? = (fn.map FDf.val)[i]? := by rw [e]
  rw [List.getElem?_map, List.getElem?_map, h] at e2
  exact ⟨Option.some.inj e2, List.all_eq_true.mp c2 d (List.mem_of_getElem? h)⟩
theorem SaysM.def_ (c : SaysM file fs fn K) (i : Nat) (d : FDf) (h : fn[i]? = some d := by rfl) (hs : d.sup = none := by rfl) : DefAt K d := FDf.at1 (c.raw i h).1 (c.raw i h).2 hs
theorem SaysM.sup (c : SaysM file fs fn K) (i : Nat) (d : FDf) (x : Str) (h : fn[i]? = some d := by rfl) (hs : d.sup = some x := by rfl) : SupAt file K d x := FDf.at2 (c.raw i h).1 (c.raw i h).2 hs
theorem DefAt.keep {d : FDf} (h : DefAt K d) : PySem.W.keepIn K (.ref (d.at_ K)) = true := by
  obtain ⟨oc, od, osl, kV, doc, pm, an, cdv, ct, lk, _⟩ := h
  unfold PySem.W.keepIn
  dsimp only
  rw [lk]
end
def bGlo (x : Str) : Fr → Bool := fun K => eqO (PySem.W.nsIn K mainGlobals x) (some (some (.ref (ga K x))))
def bFree (x : Str) : Fr → Bool := fun K => eqO (PySem.W.nsIn K mainGlobals x) (some none)
def bCls (x : Str) : Fr → Bool := (He.Fa.cls x).ok
def bNoat (x f : Str) : Fr → Bool := fun K => eqO (PySem.W.findIn K (.ref (ga K x)) f) (some none)
def bMkr (x : Str) : Fr → Bool := (He.Fa.mkr x).ok
def bExm (x y : Str) (b : Bool) : Fr → Bool := fun K => decide (PySem.W.exmOne K (.ref (ga K x)) (.ref (ga K y)) = some b)
def bOex (x : Str) : Fr → Bool := fun K => (match K.lookup (ga K x) with
  | some ⟨.type t, _, .cls cd, sl⟩ => decide (t = "type") && (match cd.mro, sl.toList with
    | .ref C' :: bm, [_, _, _, _, some (.builtin n), _] => decide (C' = ga K x) && (decide (n = "ValueError.__new__") && (!cd.hasDel && (cd.hasDict && PySem.HandSPX.refsVE bm)))
    | _, _ => false)
  | _ => false) && (eqO (PySem.W.findIn K (.ref (ga K x)) "__setattr__") (some (some (.builtin "object.__setattr__"))) && (decide (PySem.W.subIn K (.ref (ga K x)) (.type "BaseException") = some true) &&
    (decide (PySem.W.typeIn K (.ref (ga K x)) = some (.type "type")) && PySem.W.keepIn K (.ref (ga K x)))))
def bSupE (x : Str) : Fr → Bool := fun K => eqO (PySem.W.ks_superIn K (ga K x) (ga K x) "__init__") (some (some (.builtin "ValueError.__init__"))) && (decide (PySem.W.subIn K (.ref (ga K x)) (.type "ValueError") = some true) && decide (PySem.W.mroIn K (ga K x) (.ref (ga K x)) = some true))
def bIni (x : Str) : Fr → Bool := fun K => eqO (PySem.W.findIn K (.ref (ga K x)) "__init__") (some (some (.ref (ma K (ga K x) "__init__")))) && decide (PySem.W.typeIn K (.ref (ma K (ga K x) "__init__")) = some (.type "function"))
def bIsc (x : Str) : Fr → Bool := fun K => (PySem.W.clsIn K (ga K x)).isSome
def bThird : Fr → Bool := fun K => eqO (PySem.W.nsIn K cStatics "thirdparty.any") (some none)
def bXf (x : Str) : Fr → Bool := fun K => xfB K (ga K x)
def bExc (x : Str) : Fr → Bool := fun K => decide (PySem.W.findIn K (.ref (ga K x)) "__getattribute__" = some (some (.builtin "BaseException.__getattribute__"))) && (decide (PySem.W.findIn K (.ref (ga K x)) "__getattr__" = some none) &&
  (decide (PySem.W.subIn K (.ref (ga K x)) (.type "BaseException") = some true) && (PySem.W.hasDictIn K (ga K x) && (decide (PySem.W.findIn K (.ref (ga K x)) "__class__" = some (some (.builtin "object.__class__"))) &&
  (decide (PySem.W.specialIn K (.builtin "object.__class__") "__get__" = some (some (.builtin "getset_descriptor.__get__"))) && (decide (PySem.W.takesIn K (.builtin "object.__class__") = some true) && decide (PySem.W.mroIn K (ga K x) (.type "object") = some true)))))))
def bSupM' (x D m B : Str) : Fr → Bool := fun K => eqO (PySem.W.ks_superIn K (ga K x) (ga K D) m) (some (some (.ref (ma K (ga K B) m)))) && (decide (PySem.W.typeIn K (.ref (ma K (ga K B) m)) = some (.type "function")) && (PySem.W.fnIn K (ma K (ga K B) m) && decide (PySem.W.mroIn K (ga K x) (.ref (ga K D)) = some true)))
def clsOf (K : Fr) (x : Str) : Value := (PySem.W.typeIn K (.ref (ga K x))).getD .none
def bRead (x : Str) : Fr → Bool := fun K => PySem.W.readsIn K (ga K x) (clsOf K x) && decide (PySem.W.specialIn K (.ref (ga K x)) "__getattribute__" = some (some (.builtin "type.__getattribute__")))
def bStm (x m : Str) : Fr → Bool := fun K => (match PySem.W.findCls K (.ref (ga K x)) (clsOf K x) m with
  | some (.get (.builtin b) (.ref p) .none (.ref C)) => decide (b = "staticmethod.__get__") && (decide (p = ma K (ga K x) m) && decide (C = ga K x))
  | _ => false) && (match PySem.W.recIn K (ma K (ga K x) m) "staticmethod" with
  | some (.ref _ :: _) => true
  | _ => false)
def bCst (x f : Str) (v : V) : Fr → Bool := fun K => match PySem.W.findCls K (.ref (ga K x)) (clsOf K x) f with
  | some (.val u) => relB v u
  | _ => false
def bKit (t : Fr → Value) (u : Fr → Value) (b : Bool) : Fr → Bool := fun K => decide (PySem.W.kitOne K (t K) (u K) = some b)
section
variable {K : Fr} {x f m y : Str}
theorem bGlo_ok {h : Heap} {mg : Str → Option Value} (X : K.In h) (G : h.Ns mainGlobals mg) (c : bGlo x K = true) : mg x = some (.ref (ga K x)) := PySem.W.mg_of X G (eqO_ok c)
theorem bFree_ok {h : Heap} {mg : Str → Option Value} (X : K.In h) (G : h.Ns mainGlobals mg) (c : bFree x K = true) : mg x = none := PySem.W.mg_none_of X G (eqO_ok c)
theorem bOex_ok (c : bOex x K = true) : OexC K (ga K x) := by
  obtain ⟨c1, c⟩ := ba c
  obtain ⟨c2, c⟩ := ba c
  obtain ⟨c3, c⟩ := ba c
  obtain ⟨c4, c5⟩ := ba c
  refine ⟨?_, eqO_ok c2, of_decide_eq_true c3, of_decide_eq_true c4, c5⟩
  cases q : K.lookup (ga K x) with
  | none => rw [q] at c1; cases c1
  | some o =>
    obtain ⟨oc, od, dt, sl⟩ := o
    rw [q] at c1
    cases oc with
    | type t =>
      cases dt with
      | cls cd =>
        obtain ⟨d1, d2⟩ := ba (show (decide (t = "type") && _) = true from c1)
        have e1 : t = "type" := of_decide_eq_true d1
        subst e1
        obtain ⟨nm, bs, mro, ns, qn, hd, sn, sub, ab, col, hdel⟩ := cd
        obtain ⟨sl⟩ := sl
        dsimp only at d2
        split at d2
        · rename_i _ _ C' bm k0 k1 k2 k3 n k5
          obtain ⟨f1, f2⟩ := ba d2
          obtain ⟨f3, f4⟩ := ba f2
          obtain ⟨f5, f6⟩ := ba f4
          obtain ⟨f7, f8⟩ := ba f6
          have g1 : C' = ga K x := of_decide_eq_true f1
          have g2 : n = "ValueError.__new__" := of_decide_eq_true f3
          have g3 : hdel = false := by cases hdel <;> first | rfl | cases f5
          have g4 : hd = true := f7
          subst g2 g3 g4
          rw [← g1] at q ⊢
          exact ⟨nm, qn, ns, bs, bm, sn, sub, ab, col, od, k0, k1, k2, k3, k5, rfl, f8⟩
        · cases d2
      | _ => cases c1
    | _ => cases c1
theorem bSupE_ok (c : bSupE x K = true) : SupE K (ga K x) (ga K x) := by
  obtain ⟨c1, c⟩ := ba c
  obtain ⟨c2, c3⟩ := ba c
  exact ⟨eqO_ok c1, of_decide_eq_true c2, of_decide_eq_true c3⟩
theorem bIni_ok (c : bIni x K = true) : PySem.W.findIn K (.ref (ga K x)) "__init__" = some (some (.ref (ma K (ga K x) "__init__"))) ∧ PySem.W.typeIn K (.ref (ma K (ga K x) "__init__")) = some (.type "function") := by
  obtain ⟨c1, c2⟩ := ba c
  exact ⟨eqO_ok c1, of_decide_eq_true c2⟩
theorem bIsc_ok (c : bIsc x K = true) : ∃ cd, PySem.W.clsIn K (ga K x) = some cd := Option.isSome_iff_exists.mp c
theorem bExc_ok (c : bExc x K = true) : ExcC K (ga K x) := by
  obtain ⟨c1, c⟩ := ba c
  obtain ⟨c2, c⟩ := ba c
  obtain ⟨c3, c⟩ := ba c
  obtain ⟨c4, c⟩ := ba c
  obtain ⟨c5, c⟩ := ba c
  obtain ⟨c6, c⟩ := ba c
  obtain ⟨c7, c8⟩ := ba c
  exact ⟨of_decide_eq_true c1, of_decide_eq_true c2, of_decide_eq_true c3, c4, of_decide_eq_true c5, of_decide_eq_true c6, of_decide_eq_true c7, of_decide_eq_true c8⟩
theorem bSupM_ok {D B : Str} (c : bSupM' x D m B K = true) : SupM K (ga K x) (ga K D) m (ma K (ga K B) m) := by
  obtain ⟨c1, c⟩ := ba c
  obtain ⟨c2, c⟩ := ba c
  obtain ⟨c3, c4⟩ := ba c
  exact ⟨eqO_ok c1, of_decide_eq_true c2, c3, of_decide_eq_true c4⟩
theorem bRead_ok (c : bRead x K = true) : ClX.CRead K (ga K x) (clsOf K x) := by
  obtain ⟨c1, c2⟩ := ba c
  exact ⟨c1, of_decide_eq_true c2⟩
theorem bStm_ok {g : Gm} {k : Nat} {F : Fn} (hm : g.mg x = some (.ref (ga g.K x))) (r : bRead x g.K = true) (c : bStm x m g.K = true) (hk : PySem.W.keepIn g.K (.ref (atR "staticmethod" x m g.K)) = true) (C : CalD g k (atR "staticmethod" x m g.K) [] F) : StmOk g k x m F := by
  obtain ⟨c1, c2⟩ := ba c
  cases q : PySem.W.findCls g.K (.ref (ga g.K x)) (clsOf g.K x) m with
  | none => rw [q] at c1; cases c1
  | some fd =>
    rw [q] at c1
    split at c1
    · rename_i b p C' heq
      obtain ⟨d1, d2⟩ := ba c1
      obtain ⟨d3, d4⟩ := ba d2
      have e1 := of_decide_eq_true d1
      have e2 := of_decide_eq_true d3
      have e3 := of_decide_eq_true d4
      subst e1 e2 e3
      cases heq
      cases q2 : PySem.W.recIn g.K (ma g.K (ga g.K x) m) "staticmethod" with
      | none => rw [q2] at c2; cases c2
      | some l =>
        rw [q2] at c2
        split at c2
        · rename_i f rest heq2
          cases heq2
          have e4 : atR "staticmethod" x m g.K = f := by unfold atR; rw [q2]
          rw [e4] at hk C
          exact ⟨_, _, _, f, rest, hm, bRead_ok r, q, q2, hk, C⟩
        · cases c2
    · cases c1
theorem bCst_ok {g : Gm} {v : V} {d : D} (hm : g.mg x = some (.ref (ga g.K x))) (r : bRead x g.K = true) (c : bCst x f v g.K = true) (hd : ∀ ι H, RelD g ι H d v) : CstOk g x f d := by
  unfold bCst at c
  cases q : PySem.W.findCls g.K (.ref (ga g.K x)) (clsOf g.K x) f with
  | none => rw [q] at c; cases c
  | some fd =>
    rw [q] at c
    cases fd with
    | val u => exact ⟨_, _, v, u, hm, bRead_ok r, ⟨q, relB_ok c⟩, hd⟩
    | _ => cases c
end
end FI
set_option maxRecDepth 100000
set_option maxHeartbeats 2000000
namespace FI
open PySem L2 PySem.Spec PyProof.Rows
open He (ga ma eqO eqO_ok ba relB relB_ok)
theorem ft_chainO {g : Gm} {c : Sc} {x1 x2 x3 : Expr} {fa fb fc : SE} {op op' : CmpOp} {F F' : D → D → Mm D} {pos : Pos} (h : CmpOk g op F) (h' : CmpOk g op' F') (ha : FE g c x1 fa) (hb : FE g c x2 fb) (hc : FE g c x3 fc) (hm : lastMarks [op, op'] [x2, x3] = false := by rfl) : FT g c (.Compare x1 [op, op'] [x2, x3] pos) (tB (eChain F F' fa fb fc)) :=
  ⟨fun X i W t => by
    obtain ⟨_, ho, p⟩ := h.run c X i
    obtain ⟨_, ho', p'⟩ := h'.run c X i
    exact pt_imp (L2.pt_chain ho ho' (ha.run X i W t) (hb.run X i W t) (hc.run X i W t) hm) fun σ H Q ⟨ι, gs, G, ss, sh, h⟩ => ⟨ι, gs, G, ss, sh, h.bnd.bnd.imp fun d ι1 G1 H1 s1 t1 h1 v rv =>
      ⟨ι1, gs, G1, ss.mono s1, t1, h1.bnd.imp fun e ι2 G2 H2 s2 t2 h2 w rw' => p W σ ι2 G2 H2 d e v w _ t2 (rv.mono s2) rw' (h2.bnd.imp fun k ι3 G3 H3 s3 t3 h3 z rz => by
        cases rz with
        | bl b =>
          cases b with
          | true => exact ⟨true, rfl, ι3, gs, G3, ((ss.mono s1).mono s2).mono s3, t3, h3.bnd.imp fun y ι4 G4 H4 s4 t4 h4 u ru => p' W σ ι4 G4 H4 e y w u _ t4 ((rw'.mono s3).mono s4) ru (h4.imp fun z ι5 G5 H5 s5 t5 h5 v5 r5 => by
              cases r5 <;> first | exact h5.no | exact ⟨_, rfl, h5.val (.refl _ _ _) t5⟩)⟩
          | false => exact ⟨false, rfl, ⟨false, rfl, (h3.val (K := fun d ι' G' H' => Gv g W σ ι' H' _ _) (.refl _ _ _) t3).val (.refl _ _ _) t3⟩⟩
        | _ => exact h3.no)⟩⟩⟩
theorem sw_cell {elt : Expr} {gs : List Comprehension} {scope : Scope} {pos py : Pos} {y : Str} {l : Nat} {env : Env} (hy : env.scope.names.lookup y = some .cell) : swapsWith (.ListComp elt gs scope pos) (some (.Name y py)) l env = pure false := by
  have ky : env.kindOf y = some .cell := hy
  unfold swapsWith
  simp only [ky, Expr.pos]
  rw [show (some NameKind.cell == some NameKind.local) = false from rfl, Bool.and_false, Bool.false_and, Bool.false_and]
theorem fs_asgC {g : Gm} {c : Sc} {elt : Expr} {gens : List Comprehension} {scope : Scope} {fe : SE} {k : Nat} {y : Str} {pos py spos : Pos} (he : FE g c (.ListComp elt gens scope pos) fe) (hg : FG g c (.Name y py) [k] (gNm k)) (hy : c.sc.names.lookup y = some .cell := by rfl) :
    FS g c (.Assign [.Name y py] (.ListComp elt gens scope pos) spos) (sAsg fe (gNm k)) :=
  ⟨fun X i W tk => by
    have hs : swapsWithSole [.Name y py] (.ListComp elt gens scope pos) spos.line X.env = pure false := sw_cell (l := spos.line) (by rw [i.sc]; exact hy)
    exact ps_imp (ps_asg (he.run X i W tk) (hg.run X i) hs rfl rfl) fun D0 σ H ⟨ι, gs, G, ss, sh, q⟩ => ⟨ι, gs, G, ss, sh, (q.onE ss).imp fun d ι1 G1 H1 s1 t1 h1 v rv =>
      ⟨ι1, gs, G1, d, _, _, ss.mono s1, t1, rv, rfl, fun ι' H' σ' s t u _ => h1.at s t u⟩⟩⟩
def bSorted : List D → Mm D := fun ds G => match d1 bSortL ds G with
  | some z => some z
  | none => d1 bSortD ds G
theorem b_sorted' {g : Gm} : BltOk g (.builtin "sorted") bSorted true := b_sorted
def kwdAt (K : Fr) (a : Addr) : Value := match K.lookup a with
  | some ⟨_, _, .func fd, _⟩ => fd.kwdefaults
  | _ => .none
def kwdRel (K : Fr) (kV : Value) (kw : Str) (v : V) : Bool := match kV with
  | .ref Dk => (match PySem.W.nsIn K Dk kw with
    | some (some u) => relB v u
    | _ => false)
  | _ => false
def bKwd (at_ : At) (kw : Str) (v : V) : Fr → Bool := fun K => kwdRel K (kwdAt K (at_ K)) kw v
theorem bKwd_ok {K : Fr} {at_ : At} {kw : Str} {v : V} (c : bKwd at_ kw v K = true) {oc : Value} {od : Option Addr} {fd : FuncData} {osl : Array (Option Value)} (lk : K.lookup (at_ K) = some ⟨oc, od, .func fd, osl⟩) : ∃ Dk u, fd.kwdefaults = .ref Dk ∧ PySem.W.nsIn K Dk kw = some (some u) ∧ RelV v u := by
  have c1 : kwdRel K (kwdAt K (at_ K)) kw v = true := c
  have e : kwdAt K (at_ K) = fd.kwdefaults := by unfold kwdAt; rw [lk]
  rw [e] at c1
  cases q : fd.kwdefaults with
  | ref Dk =>
    rw [q] at c1
    unfold kwdRel at c1
    dsimp only at c1
    cases q2 : PySem.W.nsIn K Dk kw with
    | none => rw [q2] at c1; cases c1
    | some r =>
      rw [q2] at c1
      cases r with
      | none => cases c1
      | some u => exact ⟨Dk, u, rfl, q2, relB_ok c1⟩
  | _ => rw [q] at c1; cases c1
def bSame (d b m : Str) : Fr → Bool := fun K => decide (ma K (ga K d) m = ma K (ga K b) m)
theorem pvx {g : Gm} {c : Sc} {X : Cx} (i : XIs g c X) (j : Nat) {x : Str} {pos : Pos} (hN : c.N[j]? = some x := by rfl) (hv : Vis c.sc x := by first | exact Or.inl rfl | exact Or.inr (Or.inl rfl) | exact Or.inr (Or.inr rfl))
    (hd : (x == ("__debug__" : Str)) = false := by decide) (hcd : (x == ("__classdict__" : Str)) = false := by decide) : PE X (.Name x pos) (tVar j) := pe_var (i := j) (by rw [i.N]; exact hN) (by rw [i.sc]; exact hv) hd hcd
end FI
set_option maxRecDepth 100000
set_option maxHeartbeats 2000000
namespace FI
open PySem L2 PySem.Spec PyProof.Rows
theorem walk_ofW {l : PySem.W.OpenLaw} {n k : Nat} {q : Program} {loose : List Str} {XP : (Str → Option Value) → Heap → Prop} {YP : World → Heap → Prop} {d : DefRec} {x : Str} (hn : l.most = some n) (hn2 : n ≤ sizeLine) (hdf : d.params.defaults = []) (hr : Room k callerA)
    (F : ∀ (w : World) (mg : Str → Option Value) (fa : Addr) (h : Heap), YP w h → h.Ns mainGlobals mg → mg d.name = some (.ref fa) → ∃ (K : PySem.W.Frag) (fd : FuncData) (sp : Heap → Sp), K.In h ∧ (∀ (s : Shared) (u : Value), BindsTo s fd ⟨[u], []⟩ [(x, u)]) ∧
      (∀ (H : Hp) (a : Addr) (ns : List Int), ns.length ≤ n → Only H → SqL K H a (ns.map V.int) → ∀ base, sp base [.ref a] H (fun v _ => v = .bl true) fun _ _ _ => False) ∧ ∀ base : Heap, FnOk l.prog w K mg base (L2N.CX l.prog w) k fa fd [x] (sp base)) :
    PySem.W.WalkO q loose XP YP l.row.toRowW d [] (fun f vs => PySem.call f vs) := by
  refine Att.attach_call hn hdf fun w s0 s1 mg mb fa o pm cd doc a vs ns G Y ho hd hcd hmg hobj hints hlen hg => ?_
  obtain ⟨K, fd, sp, KX, hb, hsp, hF⟩ := F w mg fa _ Y G.T.g hmg
  refine law_call (CX := L2N.CX l.prog w) (sp := fun vs H Q E => ∀ base, sp base vs H Q E) KX G.T.g G.T.b G.T.builtins G.T.nolimit hg hobj hints (Nat.le_trans hlen hn2) hr (fun base _ _ => ?_) hb (fun H hO hS => hsp H a ns hlen hO hS) fun H e s' z => ?_
  · have z := hF base
    exact ⟨fun vs H Q E q => z.len vs H Q E (q base), fun A outer s H args us vs Q E r e0 b rv q => z.run A outer s H args us vs Q E r e0 b rv (q base)⟩
  · obtain ⟨_, _, _, _, _, _, _, _, _, _, _, _, q⟩ := z
    exact q
end FI
namespace FI
open PySem L2 PySem.Spec PyProof.Rows
theorem sqf_only {K : PySem.W.Frag} {H : Hp} {a : Addr} {xs : List V} (hO : Only H) (h : SqL K H a xs) : SqF K H a xs := by
  rcases h with h | h
  · rcases h with h | ⟨o, h⟩
    · rcases hO a with e | ⟨o, ys, e⟩
      · rw [e] at h; cases h
      · rw [e] at h; cases h
    · exact .inl ⟨o, h⟩
  · exact .inr h
theorem rel_int_map {g : Gm} {ι : List Addr} {H : Hp} : ∀ ns : List Int, RelDs g ι H (ns.map D.int) (ns.map V.int)
  | [] => .nil
  | n :: r => .cons (.int n) (rel_int_map r)
theorem sp_law {g : Gm} {F : Fn} {H : Hp} {a : Addr} {ns : List Int} (hO : Only H) (hS : SqL g.K H a (ns.map V.int)) (pure : ∃ G', F [.kl (ns.map .int)] [] = some (.val (.bl true), G')) : spD g 1 F [.ref a] H (fun v _ => v = .bl true) fun _ _ _ => False := by
  obtain ⟨G', e⟩ := pure
  refine ⟨rfl, [], [.kl (ns.map .int)], [], .cons (.kl (sqf_only hO hS) (rel_int_map ns)) .nil, ⟨rfl, List.nodup_nil, fun n o a h => by simp at h⟩, ?_⟩
  refine Gv.mk e fun ι' H' s t v rv => ?_
  cases rv
  rfl
end FI
set_option maxRecDepth 100000
namespace FI
open PySem L2 PySem.Spec PyProof.Rows
open He (ga ma refsD frG frG_in eqO eqO_ok ba relB relB_ok)
def obsL (file : Str) (as : List Addr) (fs : List (Fr → Bool)) (fn : List FDf) (g : Addr → Option Obj) : AlM := obsM file fs fn (frG g as)
def hookL (file : Str) (as : List Addr) (fs : List (Fr → Bool)) (fn : List FDf) : PySem.W.Hook where
  α := AlM
  obs := fun s => obsL file as fs fn s.heap.get?
  val := fun _ => valM fn
  says := fun _ h => ∃ K : PySem.W.Frag, K.In h ∧ SaysM file fs fn K
  of := fun _ _ e => ⟨_, frG_in, e⟩
  keeps := fun _ _ _ ⟨K, hK, c⟩ k => ⟨K, PySem.W.Frag.In.keeps hK k, c⟩
theorem obsL_eq {file : Str} {as : List Addr} {fs : List (Fr → Bool)} {fn : List FDf} {g : Addr → Option Obj} {s : Shared} (h : ∀ a, g a = s.heap.get? a) : obsL file as fs fn g = (hookL file as fs fn).obs s := by
  have e : g = s.heap.get? := funext h
  rw [e] <;> rfl
end FI
set_option maxRecDepth 100000
set_option maxHeartbeats 1000000
namespace FI
open PySem PySem.Spec PyProof.Rows L2
section
variable {g : Gm} {c : Sc} {ek ev : Expr} {fk fv : SE} {pos : Pos}
theorem Gv.base {W : WX} {σ : L2.St} {ι ι' : List Addr} {H H' : Hp} {α : Type} {m : Option (Rs α × Hh)} {K : α → List Addr → Hh → Hp → Prop} (h : Gv g W σ ι H m K) (s : Stp g ι H ι' H') : Gv g W σ ι' H' m K := by
  obtain ⟨r, G', e, q⟩ := h
  exact ⟨r, G', e, fun ι2 H2 s2 t2 => q ι2 H2 (s.trans s2) t2⟩
end
end FI
namespace FI
open PySem PySem.Spec PyProof.Rows L2
structure PrpOk (g : Gm) (k cn : Nat) (f : Str) (F : Fn) : Prop where
  cl : Cls g.K (g.cls cn)
  ex : ∃ p ga fd, PropOf g.K (g.cls cn) f p ga ∧ FnD g k ga fd ["self"] F ∧ Binds g.K fd ["self"] []
end FI
namespace FI
open PySem PySem.Spec PyProof.Rows L2
def bPrp (x f : Str) : Fr → Bool := fun K => He.eqO (PySem.W.findIn K (.ref (He.ga K x)) f) (some (some (.ref (He.ma K (He.ga K x) f)))) && (decide (PySem.W.specialIn K (.ref (He.ma K (He.ga K x) f)) "__get__" = some (some (.builtin "property.__get__"))) &&
  (decide (PySem.W.takesIn K (.ref (He.ma K (He.ga K x) f)) = some true) && (match PySem.W.recIn K (He.ma K (He.ga K x) f) "property" with
  | some (.ref _ :: _) => true
  | _ => false)))
theorem bPrp_ok {K : Fr} {x f : Str} (c : bPrp x f K = true) : PropOf K (He.ga K x) f (He.ma K (He.ga K x) f) (atR "property" x f K) := by
  obtain ⟨c1, c⟩ := He.ba c
  obtain ⟨c2, c⟩ := He.ba c
  obtain ⟨c3, c4⟩ := He.ba c
  refine ⟨He.eqO_ok c1, of_decide_eq_true c2, of_decide_eq_true c3, ?_⟩
  unfold atR
  cases e : PySem.W.recIn K (He.ma K (He.ga K x) f) "property" with
  | none => rw [e] at c4; cases c4
  | some l =>
    rw [e] at c4
    cases l with
    | nil => cases c4
    | cons v r =>
      cases v with
      | ref a => exact ⟨r, rfl⟩
      | _ => cases c4
end FI
set_option maxRecDepth 100000
set_option maxHeartbeats 1000000
set_option maxRecDepth 100000
set_option maxHeartbeats 4000000
namespace L2
open PySem PySem.Spec PyProof.Rows
def rIsXT (K : PySem.W.Frag) (D a : Addr) (d : Option Addr) : List V → Hp → VK → Prop := fun xs H Q => (d = none ∨ ∃ dd fs, d = some dd ∧ H dd = some (.xd fs)) ∧ ∃ (tp : Addr) (cs : List V) (b : Bool), xs = [.ref a, .ref tp] ∧ H tp = some (.tup cs) ∧ (∀ us, Vals cs us → PySem.W.kitAny K (.ref D) us = some b) ∧ Q (.bl b) H
theorem call_isXT {X : Cx} {a D : Addr} {d : Option Addr} {oe : Obj} {pn : List (Addr × Obj)} (C : ExcC X.K D) (hz : L2N.Zn (.ref D) d oe) (hf : ∃ vs, oe.data = .fields vs) : CallR (X.suite a ((a, oe) :: pn)) (.builtin "isinstance") (rIsXT X.K D a d) := by
  intro pins s σ H xs us Q I r h
  obtain ⟨hd, tp, cs, b, rfl, hT, e, q⟩ := h
  cases r with
  | cons rx rr =>
    cases rr with
    | cons rt rr =>
      cases rr
      cases rx
      cases rt
      obtain ⟨hget, _⟩ := I.pin (a, oe) (List.mem_append.mpr (.inl List.mem_cons_self))
      obtain ⟨vs, hv⟩ := hf
      have J : ∃ od, PySem.W.InstAt s.heap a oe D od := by
        obtain ⟨oc, odd, oda, osl⟩ := oe
        obtain ⟨h1, h2, -⟩ := hz
        dsimp only at h1 h2 hv
        subst h1 h2 hv
        rcases hd with rfl | ⟨dd, fs, rfl, hfs⟩
        · exact ⟨none, hget, rfl, rfl, trivial⟩
        · have hx : ObjOk X.prog X.w H s.heap dd (.xd fs) := I.hok dd _ hfs
          obtain ⟨mA, hns, hr⟩ := hx
          obtain ⟨od, ho, hl⟩ := lookIn_ns hns
          exact ⟨some od, hget, rfl, rfl, ho⟩
      obtain ⟨od, J⟩ := J
      obtain ⟨_, its, rv, o, h1, h2, n, h3⟩ := (show ObjOk X.prog X.w H s.heap tp (.tup cs) from I.hok tp _ hT)
      obtain ⟨oc, od', dt, sl⟩ := o
      simp only at h2 h3
      subst h2 h3
      exact PySem.W.kia_tup (PySem.W.fi_kitx_exc C.hg C.hk C.hs C.hd C.ha C.hn C.ht C.hm) I.kIn J h1 (e _ rv) (fun z => nomatch z) fun tk => ⟨.bl b, H, I.kept (t' := tk) fun _ _ z => z, rfl, q⟩
end L2
namespace FI
open PySem L2 PySem.Spec PyProof.Rows
def anyX (kt : XKit) (c : Nat) : List D → Option Bool
  | [] => some false
  | d :: ds => match ccD d with
    | some cc => match kt.lookup (c, cc) with
      | some true => some true
      | some false => anyX kt c ds
      | none => none
    | none => none
def eIsXT (kt : XKit) (x : Exc) (fc : SE) : SE := fun gs G => if x.c ∈ kt.map (·.1.1) then bnd (fc gs G) (fun dc G1 => match dc with
  | .tup ds => match anyX kt x.c ds with
    | some b => some (.val (.bl b), G1)
    | none => none
  | _ => none) else none
section
variable {g : Gm} {c : Sc} {i : Nat} {a : Addr} {cv : Value} {d : Option Addr} {x : Exc} {n f y : Str} {ce : Expr} {fc : SE} {kt : XKit} {cs : List Nat} {k : Nat} {p p1 pos : Pos}
theorem anyX_kit {ι : List Addr} {H : Hp} (ok : XKitOk g kt) {m : Nat} : ∀ {ds : List D} {vs : List V} {b : Bool}, RelDs g ι H ds vs → anyX kt m ds = some b → ∀ us, Vals vs us → PySem.W.kitAny g.K (.ref (g.cls m)) us = some b
  | _, _, _, .nil, e, _, .nil => by cases e; rfl
  | d :: ds, _, b, .cons r t, e, u :: us, .cons ru tu => by
    unfold anyX at e
    cases e1 : ccD d with
    | none => rw [e1] at e; cases e
    | some cc =>
      rw [e1] at e
      dsimp only at e
      cases e2 : kt.lookup (m, cc) with
      | none => rw [e2] at e; cases e
      | some b1 =>
        rw [e2] at e
        obtain ⟨u', hu, hk1⟩ := ok.one _ (lookup_mem e2)
        have hC := cls_of r e1 hu
        have eu : u = u' := by
          cases hC <;> first | exact ru | (cases ru; rfl)
        subst eu
        cases b1 with
        | true =>
          cases e
          exact kitAny_cons hk1 (fun z => nomatch z) fun _ => rfl
        | false => exact kitAny_cons hk1 (fun _ => anyX_kit ok t e us tu) fun z => nomatch z
theorem fe_isXT (ok : XKitOk g kt) (hx : g.hx = some (i, a, cv, d, x)) (hc : FE g c ce fc) (hy : bootBuiltins y = some (.builtin "isinstance") := by rfl) (hyn : y ≠ "__name__" := by decide) (hyd : (y == ("__debug__" : Str)) = false := by decide) (hg : GlB g c y)
    (hN : c.N[i]? = some n := by rfl) (hv : Vis c.sc n := by first | exact Or.inl rfl | exact Or.inr (Or.inl rfl) | exact Or.inr (Or.inr rfl)) (hd : (n == ("__debug__" : Str)) = false := by decide) (hcd : (n == ("__classdict__" : Str)) = false := by decide)
    (he : ∀ env, starEach [.Name n p1, ce] env = (false, eval (.Name n p1) env) :: starEach [ce] env := by intro _; rfl) (he2 : ∀ env, starEach [ce] env = (false, eval ce env) :: starEach [] env := by intro _; rfl) (hpl : ∀ env, (backTo pos (starEach [ce] env)).any (·.1) = false := by intro _; rfl) :
    FE g c (.Call (.Name y p) [.Name n p1, ce] [] pos) (eIsXT kt x fc) := ⟨fun X j W t => by
  obtain ⟨Y, oe, pn, eX, hz, hf⟩ := j.hx _ hx
  dsimp only at eX hz
  have pv := pe_var (X := X) (i := i) (pos := p1) (by rw [j.N]; exact hN) (by rw [j.sc]; exact hv) hd hcd
  have pc := hc.run X j W t
  have hgl := hg.1.gl j
  have hmg : X.mg y = none := by rw [j.mg]; exact hg.2
  have pas := pa_cons pv (pa_cons pc pa_nil (he2 X.env)) (he X.env)
  refine ⟨fun pins s σ H Q I ⟨ι, gs, G, ss, sh, h⟩ => ?_⟩
  obtain ⟨q1, q2, q3⟩ := ss.hx _ hx
  dsimp only at q1 q2 q3
  obtain rfl : cv = Value.ref (g.cls x.c) := q3.1
  unfold eIsXT at h
  by_cases hk : x.c ∈ kt.map (·.1.1)
  · rw [if_pos hk] at h
    obtain ⟨e, he1, he2'⟩ := List.mem_map.mp hk
    have C : ExcC g.K (g.cls x.c) := by rw [← he2']; exact ok.exc e he1
    have hr : CallR X (.builtin "isinstance") (rIsXT g.K (g.cls x.c) a d) := by
      have eK : Y.K = g.K := by rw [← j.K, eX]
      rw [eX, ← eK]
      exact call_isXT (by rw [eK]; exact C) hz hf
    refine (pe_callB hr hgl hmg hy pas hyn hyd (he _) ?_).run pins s σ H Q I ?_
    · exact hpl X.env
    · refine ⟨_, q2, ι, gs, G, ss, sh, h.bnd.imp fun dc ι1 G1 H1 s1 t1 h1 v rv => ?_⟩
      refine ⟨?_, ?_⟩
      · rcases q3.2 with ⟨_, q⟩ | ⟨dd, vfs, q, q4, _⟩
        · exact .inl q
        · exact .inr ⟨dd, vfs, q, s1.xd _ _ q4⟩
      · cases rv with
        | @tup ds tp vs hT rs =>
          dsimp only at h1
          cases e2 : anyX kt x.c ds with
          | none => rw [e2] at h1; exact h1.no
          | some b =>
            rw [e2] at h1
            exact ⟨tp, vs, b, rfl, hT, fun us hu => anyX_kit ok rs e2 us hu, h1.val (.refl _ _ _) t1 _ (.bl b)⟩
        | _ => exact h1.no
  · rw [if_neg hk] at h
    exact h.no⟩
end
end FI
set_option maxRecDepth 100000
set_option maxHeartbeats 2000000
namespace FI
open PySem L2 PySem.Spec PyProof.Rows
open He (ga ma eqO eqO_ok ba relB relB_ok)
theorem XFldOk.un {g : Gm} {cs : List Nat} {k : Nat} {f : Str} (h : XFldOk (g.han (0, 0, .none, none, ⟨0, []⟩)) cs k f) : XFldOk g cs k f := ⟨h.lt, h.nm, h.cl⟩
end FI
set_option maxRecDepth 100000
set_option maxHeartbeats 2000000
set_option maxRecDepth 100000
set_option maxHeartbeats 2000000
namespace L2
open PySem PySem.Spec PyProof.Rows
theorem pe_mkx {X : Cx} {C : Addr} {e : Expr} {t : St → Hp → XK → Prop} (he : L2N.PMk X e t) :
    PE X e (fun σ H Q => t σ H fun cls d H1 => cls = .ref C ∧ ∃ dd, d = some dd ∧ ∀ (a : Addr) (oe : Obj), H1 a = none → oe.cls = .ref C → (∃ us : Array Value, oe.data = .fields us) → oe.dict = some dd → Q (.ref a) (upd H1 a (.frz oe (.own a)))) := by
  refine ⟨fun pins s σ H Q I h => thn (he pins s σ H _ I h) fun u s1 hu => ?_⟩
  obtain ⟨a, oe, vs, sI, H', cls, d, rfl, J, k, hne, ha, hz, hd, h1, na, os, ag, r, ec, dd, ed, q⟩ := hu
  subst ec ed
  have I1 : Inv X pins σ (upd H' a (.frz oe (.own a))) s1 := J.call' (ch := []) os (Un.laidN k hne na) (J.hok.laidN k na ⟨ha, oe, ha⟩) ag (fun b z => absurd z (by simp))
  exact ⟨.ref a, _, I1, rfl, q a oe na hz.1 ⟨vs, hd⟩ hz.2.1⟩
theorem pe_xo {X : Cx} {e : Expr} {n : Str} {pos : Pos} {te : TE} (he : PE X e te) (hb : attributeBase e n X.env (eval e X.env) = eval e X.env := by rfl) :
    PE X (.Attribute e n pos) (fun σ H Q => te σ H fun x H1 => ∃ (a C dd : Addr) (oe : Obj) (fs : List (Str × V)) (v : V), x = .ref a ∧ H1 a = some (.frz oe (.own a)) ∧ oe.cls = .ref C ∧ (∃ us : Array Value, oe.data = .fields us) ∧ oe.dict = some dd ∧ H1 dd = some (.xd fs) ∧ XfC X.K C ∧ PySem.W.findIn X.K (.ref C) n = some none ∧ fs.lookup n = some v ∧ Q v H1) := by
  refine ⟨fun pins s σ H Q I h => ?_⟩
  refine attr_of hb (thn (he.run pins s σ H _ I h) fun u s1 ⟨x, H1, I1, ru, a, C, dd, oe, fs, v, ex, h1, h2, ⟨us, h0⟩, h3, h4, T, hno, l, q⟩ => ?_)
  subst ex
  obtain rfl : u = Value.ref a := ru
  obtain ⟨ha, -⟩ := I1.hok a _ h1
  have hx : ObjOk X.prog X.w H1 s1.heap dd (.xd fs) := I1.hok dd _ h4
  obtain ⟨mA, hns, hr⟩ := hx
  obtain ⟨od, ho, hl⟩ := lookIn_ns hns
  obtain ⟨u, hu, ru⟩ := RelO.some_of (v := v) (o := mA n) (by rw [← l]; exact hr n)
  have J2 : PySem.W.InstAt s1.heap a oe C (some od) := ⟨ha, h2, by unfold PySem.W.notCls; rw [h0] <;> rfl, by rw [h3]; exact ho⟩
  exact HandSPX.exc_get I1.kIn J2 T.ga T.gg T.exC (PySem.W.findObj_own T.hdC hno rfl (by rw [hl, hu])) (handed_of ru) ⟨v, H1, I1.tok _, ru, q⟩
end L2
namespace FI
open PySem L2 PySem.Spec PyProof.Rows
def eMkX (c np : Nat) (fln : List (Nat × Nat)) (fa : SA) : SE := fun gs G => bnd (fa gs G) fun ds G1 => if (ds.length = np ∧ np ≤ 900) ∧ fln ≠ [] then some (.val (.xo c ((mkEx c fln ds).fs.map (·.1)) ((mkEx c fln ds).fs.map (·.2))), G1) else none
def dXo (cs : List Nat) (k : Nat) : D → Mm D := fun d G => match d with
  | .xo c ks ds => if c ∈ cs then (match (ks.zip ds).lookup k with
    | some d => some (.val d, G)
    | none => none) else none
  | _ => none
theorem RelFs.split {g : Gm} {ι : List Addr} {H : Hp} {r : List (Nat × D)} {q : List (Str × V)} (h : RelFs g ι H r q) : ∃ vs, q = ((r.map (·.1)).map g.fld).zip vs ∧ RelDs g ι H (r.map (·.2)) vs ∧ ∀ k ∈ r.map (·.1), k < g.nf := by
  induction h with
  | nil => exact ⟨[], rfl, .nil, fun k hk => absurd hk (List.not_mem_nil)⟩
  | cons hk a _ ih =>
    obtain ⟨vs, e, rs, hl⟩ := ih
    refine ⟨_ :: vs, by rw [e]; rfl, .cons a rs, fun k hk' => ?_⟩
    rcases List.mem_cons.mp hk' with rfl | hk'
    · exact hk
    · exact hl k hk'
theorem zip_look {g : Gm} {ι : List Addr} {H : Hp} {k : Nat} {d : D} (hk : k < g.nf) : ∀ {ks : List Nat} {ds : List D} {vs : List V}, RelDs g ι H ds vs → (∀ k ∈ ks, k < g.nf) → (ks.zip ds).lookup k = some d → ∃ v, ((ks.map g.fld).zip vs).lookup (g.fld k) = some v ∧ RelD g ι H d v
  | [], _, _, _, _, e => by cases e
  | _ :: _, _, _, .nil, _, e => by cases e
  | j :: ks, _, _, .cons (d := d1) (v := v1) r rs, hl, e => by
    have e' : ((j, d1) :: ks.zip _).lookup k = some d := e
    show ∃ v, ((g.fld j, v1) :: (ks.map g.fld).zip _).lookup (g.fld k) = some v ∧ _
    rw [List.lookup_cons] at e' ⊢
    by_cases hj : k = j
    · subst hj
      rw [beq_self_eq_true] at e' ⊢
      cases e'
      exact ⟨v1, rfl, r⟩
    · rw [beq_eq_false_iff_ne.mpr hj] at e'
      rw [beq_eq_false_iff_ne.mpr fun z => hj (g.inj k j hk (hl j (List.mem_cons_self ..)) z)]
      exact zip_look hk rs (fun x hx => hl x (List.mem_cons_of_mem _ hx)) e'
section
variable {g : Gm} {c0 : Sc} {k c np kf jm : Nat} {x f : Str} {cs : List Nat} {fln : List (Nat × Nat)} {a e : Expr} {es : List Expr} {fa : SA} {fe : SE} {p p2 pos : Pos}
theorem fe_mkX (E : ExcOk g k x c np fln) (hk : k + 1 ≤ c0.k ∧ c0.hot = false) (ha : FA g c0 (e :: es) fa) (hg : GlS c0 x := by rfl) (hdb : (x == ("__debug__" : Str)) = false := by decide) (he : ∀ env, starEach (e :: es) env = (false, eval e env) :: starEach es env := by intro _; rfl)
    (hpl : ∀ env, (backTo p2 (starEach es env)).any (·.1) = false := by intro _; rfl) :
    FE g c0 (.Call (.Name x p) (e :: es) [] p2) (eMkX c np fln fa) := ⟨fun X i W t => by
  have hm' : X.mg x = some (.ref (g.cls c)) := by rw [i.mg]; exact E.mg
  have T : OexC X.K (g.cls c) := by rw [i.K]; exact E.T
  have mk : L2N.PMk X (.Call (.Name x p) (e :: es) [] p2) (fun σ H Q => tA g W fa σ H fun vs H1 => ∃ ι1 ds G1, SimH g ι1 G1 H1 ∧ RelDs g ι1 H1 ds vs ∧ ds.length = np ∧ np ≤ 900 ∧ ∀ ι' H' cv d, Stp g ι1 H1 ι' H' → SimH g ι' G1 H' → RelX g ι' H' (mkEx c fln ds) cv d → Q cv d H') := by
    intro pins s σ H Q I h
    refine wpAny_Call_Name_kw (ld_glob I (hg.gl i) hm' ?_ hdb)
    refine PySem.W.callWith_K (h₀ := X.base) I.ok.mod.kin T.kC (thn ((ha.run X i W t).run p2 pins s σ H _ I h) fun us s1 ⟨vs, H1, I1, r1, ι1, ds, G1, sh1, rd1, hl, h900, hx⟩ => ⟨I1.kIn, ?_⟩) (he _) (hpl _)
    exact raise_core i E hk I1 r1 sh1 rd1 hl h900 hx
  refine pe_imp (pe_mkx (C := g.cls c) mk) fun σ H Q ⟨ι, gs, G, ss, sh, h⟩ => ⟨ι, gs, G, ss, sh, h.bnd.imp fun ds ι1 G1 H1 s1 t1 h1 vs rs => ?_⟩
  by_cases hc : (ds.length = np ∧ np ≤ 900) ∧ fln ≠ []
  · rw [if_pos hc] at h1
    refine ⟨ι1, ds, G1, t1, rs, hc.1.1, hc.1.2, fun ι' H' cv d st sm rx => ?_⟩
    obtain ⟨ec, q4⟩ := rx
    rcases q4 with ⟨q5, _⟩ | ⟨dd, vfs, q5, q6, q7⟩
    · exact absurd (by simpa [mkEx] using q5) hc.2
    · obtain ⟨vs2, e1, rs2, hlt⟩ := q7.split
      refine ⟨ec, dd, q5, fun b oe hb h2 h0 h3 => ?_⟩
      have st2 := stp_upd_new (g := g) (ι := ι') (o := .frz oe (.own b)) hb
      rw [e1] at q6
      exact h1.val (st.trans st2) (sm.new hb) _ (.xo upd_same h2 h0 h3 (st2.xd _ _ q6) hlt (by simp) (rs2.mono st2))
  · rw [if_neg hc] at h1; exact h1.no⟩
theorem fe_xoF (F : XFldOk g cs kf f) (ha : FE g c0 a fe) (hb : ∀ env, attributeBase a f env (eval a env) = eval a env := by intro _; rfl) : FE g c0 (.Attribute a f pos) (eUn (dXo cs kf) fe) := ⟨fun X i W t => by
  refine pe_imp (pe_xo (ha.run X i W t) (hb _)) fun σ H Q ⟨ι, gs, G, ss, sh, h⟩ => ⟨ι, gs, G, ss, sh, h.bnd.imp fun d ι1 G1 H1 s1 t1 h1 v rv => ?_⟩
  unfold dXo at h1
  cases rv with
  | @xo c ks ds b dd oe vs g1 g2 g0 g3 g4 g5 g6 rs =>
    dsimp only at h1
    by_cases hc : c ∈ cs
    · rw [if_pos hc] at h1
      cases el : (ks.zip ds).lookup kf with
      | none => rw [el] at h1; exact h1.no
      | some dv =>
        rw [el] at h1
        obtain ⟨w, e1, e2⟩ := zip_look F.lt rs g5 el
        obtain ⟨f1, f2⟩ := F.cl c hc
        exact ⟨b, g.cls c, dd, oe, _, w, rfl, g1, g2, g0, g3, g4, by rw [i.K]; exact f1, by rw [i.K]; exact f2, by rw [← F.nm]; exact e1, h1.val (.refl _ _ _) t1 w e2⟩
    · rw [if_neg hc] at h1; exact h1.no
  | _ => exact h1.no⟩
end
end FI
set_option maxRecDepth 100000
set_option maxHeartbeats 2000000
namespace L2Z
open PySem PySem.Spec PyProof.Rows L2 L2H HotX
abbrev St := L2.St
structure TurnZ (P : Program) (w : World) (K : PySem.W.Frag) (tg : Expr) (J : It) (fp : List Addr) (it : Addr) (tn : Nat → Heap → Prop) : Prop where
  mem : it ∈ fp
  obj : ∀ i h, tn i h → ∀ b ∈ fp, ∃ o, h.get? b = some o ∧ ∀ v, o.data ≠ .cell v
  keep : ∀ i h h', tn i h → (∀ b ∈ fp, ∀ o, h.get? b = some o → h'.get? b = some o) → tn i h'
  item : ∀ (X : Cx), X.prog = P → X.w = w → X.K = K → ∀ (i : Nat) (pins : List (Addr × Obj)) (s : Shared) (σ : St) (H : Hp) (E : Value → Shared → Prop), (∃ x1, x1 ∉ fp ∧ HotAt X.A x1 s.heap) → Inv X pins σ H s → (∀ b ∈ fp, FpOk X pins H b) → tn i s.heap → J.go i H →
    wpAny (model P w) X.A (pyNext (.ref it)) (fun r s1 => ∃ u, r = some u ∧
      wpAny (model P w) X.A (letOwnedTupleGo tg (.ref it) u) (fun _ s2 => ∃ x H', Inv X pins σ H' s2 ∧ RelV x u ∧ J.yld i H x H' ∧ tn (i + 1) s2.heap ∧ ∀ b ∈ fp, H' b = none) E s1) E s
  done : ∀ (X : Cx), X.prog = P → X.w = w → X.K = K → ∀ (i : Nat) (pins : List (Addr × Obj)) (s : Shared) (σ : St) (H : Hp) (E : Value → Shared → Prop), (∃ x1, x1 ∉ fp ∧ HotAt X.A x1 s.heap) → Inv X pins σ H s → (∀ b ∈ fp, FpOk X pins H b) → tn i s.heap → J.stop i H →
    wpAny (model P w) X.A (pyNext (.ref it)) (fun r s1 => r = none ∧ Inv X pins σ H s1) E s
  self : ∀ (A : Around) (i : Nat) (s : Shared) (Q : Value → Shared → Prop) (E : Value → Shared → Prop), tn i s.heap → Q (.ref it) s → wpAny (model P w) A (pyIter (.ref it)) Q E s
theorem turn_rangeZ {P : Program} {w : World} {K : PySem.W.Frag} {tg : Expr} (it : Addr) (lo : Int) (n : Nat) : TurnZ P w K tg (Itr lo n) [it] it (fun i h => IsRangeIter h it (lo + (i : Nat) * 1) ((n : Int) - (i : Nat)) 1) where
  mem := by simp
  obj := fun i h st b hb => by
    have e : b = it := by simpa using hb
    subst e
    exact ⟨_, st, fun v z => by
      have z' : Data.fields _ = Data.cell v := z
      cases z'⟩
  keep := fun i h h' st k => k it (by simp) _ st
  item := by
    intro X hP hw hK i pins s σ H E hc I hf st hg
    subst hP hw hK
    obtain ⟨f0, f1, f2, f3, f4, f5⟩ := hf it (by simp)
    have hlt : i < n := hg
    refine wpAny_pyNext_range_item st (by omega) fun h' st' sb => ?_
    have st2 : IsRangeIter h' it (lo + ((i + 1 : Nat) : Int) * 1) ((n : Int) - ((i + 1 : Nat) : Int)) 1 := by
      have e1 : lo + ((i : Nat) : Int) * 1 + 1 = lo + ((i + 1 : Nat) : Int) * 1 := by omega
      have e2 : (n : Int) - ((i : Nat) : Int) - 1 = (n : Int) - ((i + 1 : Nat) : Int) := by omega
      rw [← e1, ← e2]
      exact st'
    have I1 : Inv X pins σ H { s with heap := h', toks := s.toks + 1 } := I.turned (fun b o hb e => (sb.2 b hb).trans e) f0 f1 f3 f4 f5
    refine ⟨_, rfl, go_of (s := { s with heap := h', toks := s.toks + 1 }) (n := "range_iterator") st2 rfl rfl (by decide) ⟨.int (lo + i), H, I1, ⟨s.toks, ?_⟩, ⟨rfl, rfl⟩, st2, fun b hb => (hf b hb).1⟩⟩
    rw [Int.mul_one]
  done := by
    intro X hP hw hK i pins s σ H E hc I hf st hg
    subst hP hw hK
    obtain ⟨f0, f1, f2, f3, f4, f5⟩ := hf it (by simp)
    obtain ⟨x1, -, hot⟩ := hc
    exact pyNext_range_end_hot hot st (by have : n ≤ i := hg; omega) fun h' eb => ⟨rfl, I.turned (t' := s.toks) (fun b o _ e => eb b o e) f0 f1 f3 f4 f5⟩
  self := fun _ _ _ _ _ st h => wpAny_pyIter_rangeiter st h
def PIEZ (X : Cx) (pins : List (Addr × Obj)) (σ : St) (tg : Expr) (R : It → Hp → Prop) (itv : Value) (s2 : Shared) : Prop :=
  ∃ (it : Addr) (fp : List Addr) (tn : Nat → Heap → Prop) (J : It) (H' : Hp), itv = .ref it ∧ Inv X pins σ H' s2 ∧ TurnZ X.prog X.w X.K tg J fp it tn ∧ tn 0 s2.heap ∧ (∀ b ∈ fp, FpOk X pins H' b) ∧ R J H'
structure PIZ (X : Cx) (tg iter : Expr) (wi : TI) : Prop where
  run : ∀ (pins : List (Addr × Obj)) (s : Shared) (σ : St) (H : Hp) (R : It → Hp → Prop), Inv X pins σ H s → wi σ H R →
    wpAny (model X.prog X.w) X.A (eval iter X.env) (fun v s1 => wpAny (model X.prog X.w) X.A (pyIter v) (PIEZ X pins σ tg R) X.xe s1) X.xe s
section
variable {X : Cx} {tg : Expr}
theorem range_itZ {pins : List (Addr × Obj)} {σ : St} {H : Hp} {s : Shared} {R : It → Hp → Prop} {E : Value → Shared → Prop} {lo hi : Int} {t u v : Tok} {tk : Nat} (I : Inv X pins σ H s) (h1 : -(2 ^ 62) ≤ lo) (h2 : lo < 2 ^ 62) (h3 : -(2 ^ 62) ≤ hi) (h4 : hi < 2 ^ 62)
    (q : R (Itr lo (hi - lo).toNat) H) : wpAny (model X.prog X.w) X.A (pyIter (.ref s.heap.objs.size)) (PIEZ X pins σ tg R) E { s with heap := s.heap.push { cls := .type "range", data := .fields #[.int lo t, .int hi u, .int 1 v] }, toks := tk } := by
  refine wpAny_pyIter_range (IsRange.new ..) (small_one h1 h2 h3 h4) ?_
  have I1 : Inv X pins σ H { s with heap := s.heap.push { cls := .type "range", data := .fields #[.int lo t, .int hi u, .int 1 v] }, toks := tk } := I.kept fun b o e => Heap.get?_push_of_some _ e
  refine ⟨(s.heap.push { cls := .type "range", data := .fields #[.int lo t, .int hi u, .int 1 v] }).objs.size, [(s.heap.push { cls := .type "range", data := .fields #[.int lo t, .int hi u, .int 1 v] }).objs.size], _, _, H, rfl,
    I1.kept (t' := tk) fun b o e => Heap.get?_push_of_some _ e, turn_rangeZ _ lo (hi - lo).toNat, ?_, fun b hb => ?_, q⟩
  · have e1 : lo + ((0 : Nat) : Int) * 1 = lo := by simp
    have e2 : (((hi - lo).toNat : Nat) : Int) - ((0 : Nat) : Int) = Builtin.Range.rangeSize lo hi 1 := by rw [rangeSize_one]; split <;> omega
    show IsRangeIter _ _ (lo + ((0 : Nat) : Int) * 1) ((((hi - lo).toNat : Nat) : Int) - ((0 : Nat) : Int)) 1
    rw [e1, e2]
    exact Heap.get?_push_size _ rfl
  · have e : b = (s.heap.push { cls := .type "range", data := .fields #[.int lo t, .int hi u, .int 1 v] }).objs.size := by simpa using hb
    subst e
    exact I1.fpOk (Nat.le_refl _) (I1.hok.fresh (Nat.le_refl _))
theorem pi_range1Z {a : Expr} {ta : TA} {p pos : Pos} (hg : Gl X "range") (hm : X.mg "range" = none) (ha : PA X [a] ta) (hs : starEach [a] X.env = [(false, eval a X.env)] := by rfl) : PIZ X tg (.Call (.Name "range" p) [a] [] pos) (iRng1 ta) := by
  refine ⟨fun pins s σ H R I h => ?_⟩
  refine Call_ (ld_blt I hg hm boot_range (PyProof.Rows.callWith_type1 (thn (ha.run pos pins s σ H _ I h) fun us s1 ⟨vs, H1, I1, r1, q1⟩ => ?_) hs rfl))
  obtain ⟨j, e, q1, q2, q⟩ := q1
  subst e
  cases r1 with
  | cons r rr =>
    cases rr
    obtain ⟨t, rfl⟩ := r
    exact call_range_1 (range_itZ I1 (by omega) (by omega) q1 q2 (by simpa using q))
theorem ps_forZ {iter : Expr} {body : List Stmt} {wi : TI} {g : TG} {tb : TS} {pos : Pos} (hp : PassesOwn (model X.prog X.w) X.A X.env X.xe) (hc : HotC X) (hi : PIZ X tg iter wi) (hg : PG X tg g) (hb : PSs X body tb)
    (hs : ∀ x, foldedSetIterable iter X.env x = pure x := by intro _; rfl) : PS X (.For tg iter body [] pos) (tFor wi g tb) := by
  refine ⟨fun pins s σ H D I h => ?_⟩
  refine wpAny_For (thn (hi.run pins s σ H _ I h) fun v s1 h1 => thn h1 fun itv s2 h2 => ?_) hs
  obtain ⟨it, fp, tn, J, H2, e, I2, T, st2, f2, W, ⟨m0, w0⟩, turn⟩ := h2
  subst e
  have stat : ∀ {H' : Hp}, (∀ b ∈ fp, H' b = none) → ∀ b ∈ fp, FpOk X pins H' b := fun hn b hb => ⟨hn b hb, (f2 b hb).2⟩
  have hotF : ∀ {σ' : St} {H' : Hp} {s' : Shared}, (∀ b ∈ fp, FpOk X pins H' b) → Inv X pins σ' H' s' → ∃ x1, x1 ∉ fp ∧ HotAt X.A x1 s'.heap := fun {σ' H' s'} hf I' => by
    obtain ⟨p, ⟨hh, v1, e1, c1⟩, hp⟩ := hc
    exact ⟨p.1, fun z => (hf p.1 z).2.2.2.2.2 p (List.mem_append_left _ hp) rfl, hh, p.2, v1, (I'.pin p (List.mem_append_left _ hp)).1, e1, c1⟩
  refine codeAny_forLoop_any (fun n s' => ∃ i σ' H', Inv X pins σ' H' s' ∧ tn i s'.heap ∧ (∀ b ∈ fp, H' b = none) ∧ W i n σ' H') ?_ m0 ⟨0, σ, H2, I2, st2, fun b hb => (f2 b hb).1, w0⟩
  rintro n s3 ⟨i, σ3, H3, I3, st3, fr3, w3⟩
  rcases turn i n σ3 H3 w3 with ⟨stop, qn⟩ | ⟨go, N, hN, step⟩
  · refine wpAny_passesOwn hp (thn (T.done X rfl rfl rfl i pins s3 σ3 H3 X.xe (hotF (stat fr3) I3) I3 (stat fr3) st3 stop) fun r s4 ⟨hr, I4⟩ => ?_)
    subst hr
    exact wpAny_execs_nil ⟨σ3, H3, I4, qn⟩
  · refine wpAny_passesOwn hp (thn (T.item X rfl rfl rfl i pins s3 σ3 H3 X.xe (hotF (stat fr3) I3) I3 (stat fr3) st3 go) fun r s4 ⟨u, hr, h4⟩ => ?_)
    subst hr
    refine wpAny_passesOwn hp (thn h4 fun _ s5 ⟨x, H5, I5, r5, y5, st5, fr5⟩ => ?_)
    have I5' := I5.pinned (stat fr5) (T.obj _ _ st5)
    refine wpAny_passesOwn hp (thn (hg.run _ s5 σ3 H5 x u _ I5' r5 (step x H5 y5)) fun _ s6 ⟨σ6, H6, I6, q6⟩ => ?_)
    refine wpAny_passesOwn hp (thn (hb.run _ s6 σ6 H6 _ I6 q6) fun f s7 q7 => ?_)
    have again : ∀ {σ7 : St} {H7 : Hp}, Inv X (pins ++ pinsAt fp s5.heap) σ7 H7 s7 → N σ7 H7 → ∃ m, m < n ∧ ∃ i σ' H', Inv X pins σ' H' s7 ∧ tn i s7.heap ∧ (∀ b ∈ fp, H' b = none) ∧ W i m σ' H' := fun {σ7 H7} I7 n7 => by
      obtain ⟨m', hm, w7⟩ := hN σ7 H7 n7
      refine ⟨m', hm, i + 1, σ7, H7, I7.unpinned, T.keep _ _ _ st5 fun b hb o e => (I7.pin (b, o) (List.mem_append_right _ (List.mem_append_right _ (mem_pinsAt hb e)))).1, fun b hb => ?_, w7⟩
      obtain ⟨o, e, d⟩ := T.obj _ _ st5 b hb
      exact (I7.pin (b, o) (List.mem_append_right _ (List.mem_append_right _ (mem_pinsAt hb e)))).2.1
    cases f with
    | next => obtain ⟨σ7, H7, I7, n7⟩ := q7; exact again I7 n7
    | cont => obtain ⟨σ7, H7, I7, n7⟩ := q7; exact again I7 n7
    | brk => obtain ⟨σ7, H7, I7, q7⟩ := q7; exact ⟨σ7, H7, I7.unpinned, q7⟩
    | ret v => obtain ⟨x7, σ7, H7, I7, r7, q7⟩ := q7; exact ⟨x7, σ7, H7, I7.unpinned, r7, q7⟩
end
end L2Z
namespace FI
open PySem L2 PySem.Spec PyProof.Rows
structure FKZ (g : Gm) (c : Sc) (tg iter : Expr) (f : SW) : Prop where
  run : ∀ X, XIs g c X → ∀ W, L2N.Takes X W → L2Z.PIZ X tg iter (tW g W f)
theorem pi_impZ {X : Cx} {tg iter : Expr} {t t' : TI} (h : L2Z.PIZ X tg iter t) (k : ∀ σ H Q, t' σ H Q → t σ H Q) : L2Z.PIZ X tg iter t' := ⟨fun pins s σ H Q I q => h.run pins s σ H Q I (k σ H Q q)⟩
section
variable {g : Gm} {c : Sc} {tg iter : Expr} {fw : SW} {t : GT} {body : List Stmt} {b : SS} {pos : Pos}
theorem fs_forZ {sl : List Nat} (hi : FKZ g c tg iter fw) (hg : FG g c tg sl t) (hb : FB g c body b) (hs : ∀ env x, foldedSetIterable iter env x = pure x := by intro _ _; rfl) (hh : c.hot = true := by rfl) (ht : c.top = true := by rfl) (h0 : g.hx = none := by rfl) : FS g c (.For tg iter body [] pos) (sFor fw t b) :=
  ⟨fun X i W tk => ps_imp (L2Z.ps_forZ i.po (i.hp hh ht h0) (hi.run X i W tk) (hg.run X i) (hb.run X i W tk) (hs _)) fun D0 σ H ⟨ι, gs, G, ss, sh, q⟩ => by
    refine ⟨ι, gs, G, ss, sh, (q.onE ss).imp fun p ι1 G1 H1 s1 t1 h1 J wk => ?_⟩
    obtain ⟨items, gd⟩ := p
    refine ⟨fun n m σ' H' => ∃ ι' gs' G', n ≤ items.length ∧ m = items.length - n ∧ Stp g ι1 H1 ι' H' ∧ SimS g ι' H' gs' σ' ∧ SimH g ι' G' H' ∧ Gs g W ι' H' (forL t b gd (items.drop n) gs' G') D0,
      ⟨_, ι1, gs, G1, Nat.zero_le _, rfl, .refl _ _ _, ss.mono s1, t1, h1⟩, ?_⟩
    rintro n m σ' H' ⟨ι', gs', G', hn, rfl, st, ss', sh', q'⟩
    by_cases hlt : n < items.length
    · have hd : items.drop n = items[n] :: items.drop (n + 1) := List.drop_eq_getElem_cons hlt
      rw [hd] at q'
      unfold forL at q'
      by_cases hgd : gd G'
      · rw [if_pos hgd] at q'
        obtain ⟨go, yl⟩ := (wk ι' H' G' n st sh' hgd hn).1 items[n] (List.getElem?_eq_getElem hlt)
        refine .inr ⟨go, fun σ2 H2 => ∃ ι' gs' G', n + 1 ≤ items.length ∧ Stp g ι1 H1 ι' H2 ∧ SimS g ι' H2 gs' σ2 ∧ SimH g ι' G' H2 ∧ Gs g W ι' H2 (forL t b gd (items.drop (n + 1)) gs' G') D0, ?_, fun x H2 y => ?_⟩
        · rintro σ2 H2 ⟨ι2, gs2, G2, h1, h2, h3, h4, h5⟩
          exact ⟨items.length - (n + 1), by omega, ι2, gs2, G2, h1, rfl, h2, h3, h4, h5⟩
        · obtain ⟨s2, t2, rd⟩ := yl x H2 y
          cases e : t items[n] gs' G' with
          | none => rw [e] at q'; exact q'.no
          | some p =>
            obtain ⟨gs1, G2⟩ := p
            rw [e] at q'
            refine ⟨ι', gs', G', items[n], gs1, G2, ss'.mono s2, t2, rd, e, fun ι3 H3 σ3 s3 t3 u3 _ => ⟨ι3, gs1, G2, u3, t3, ?_⟩⟩
            obtain ⟨fl, gs4, G4, e4, q4⟩ := q'
            dsimp only at e4
            cases eb : b gs1 G2 with
            | none => rw [eb] at e4; cases e4
            | some p =>
              obtain ⟨fl1, gs5, G5⟩ := p
              rw [eb] at e4
              refine ⟨fl1, gs5, G5, rfl, fun ι6 H6 σ6 s6 t6 u6 => ?_⟩
              have sAll : Stp g ι' H' ι6 H6 := (s2.trans s3).trans s6
              cases fl1 with
              | nx => exact ⟨ι6, gs5, G5, hlt, st.trans sAll, u6, t6, fl, gs4, G4, e4, fun ι7 H7 σ7 s7 t7 u7 => q4 ι7 H7 σ7 (sAll.trans s7) t7 u7⟩
              | ct => exact ⟨ι6, gs5, G5, hlt, st.trans sAll, u6, t6, fl, gs4, G4, e4, fun ι7 H7 σ7 s7 t7 u7 => q4 ι7 H7 σ7 (sAll.trans s7) t7 u7⟩
              | bk => cases e4; exact q4 ι6 H6 σ6 sAll t6 u6
              | rt d => cases e4; exact q4 ι6 H6 σ6 sAll t6 u6
              | ex x => cases e4; exact q4 ι6 H6 σ6 sAll t6 u6
      · rw [if_neg hgd] at q'
        exact q'.no
    · have hn2 : n = items.length := by omega
      subst hn2
      rw [List.drop_length] at q'
      unfold forL at q'
      by_cases hgd : gd G'
      · rw [if_pos hgd] at q'
        exact .inl ⟨(wk ι' H' G' _ st sh' hgd hn).2 rfl, q'.at (.refl _ _ _) sh' ss'⟩
      · rw [if_neg hgd] at q'
        exact q'.no⟩
end
section
variable {g : Gm} {c : Sc} {tg e e2 : Expr} {fe : SE} {fa : SA} {pos p tpos : Pos}
theorem fk_rng1Z (hg : GlB g c "range") (ha : FA g c [e] fa) (hs : ∀ env, starEach [e] env = [(false, eval e env)] := by intro _; rfl) : FKZ g c tg (.Call (.Name "range" p) [e] [] pos) (wRng1 fa) :=
  ⟨fun X i W t => pi_impZ (L2Z.pi_range1Z (hg.1.gl i) (by rw [i.mg]; exact hg.2) (ha.run X i W t) (hs _)) fun σ H R ⟨ι, gs, G, ss, sh, h⟩ => ⟨ι, gs, G, ss, sh, h.bnd.imp fun ds ι1 G1 H1 s1 t1 h1 vs rv => by
    split at h1
    · rename_i j
      cases rv with
      | cons r rr =>
        cases r with
        | int j =>
          cases rr
          by_cases hj : okR j = true
          · rw [if_pos hj] at h1
            have := of_decide_eq_true hj
            exact ⟨j, rfl, this.1, this.2, h1.val (.refl _ _ _) t1 _ (wk_r 0 j.toNat)⟩
          · rw [if_neg hj] at h1; exact h1.no
    · exact h1.no⟩⟩
end
end FI
set_option maxRecDepth 100000
set_option maxHeartbeats 2000000
namespace L2
open PySem PySem.Spec PyProof.Rows
structure PEAt (X : Cx) (bd : List Stmt) (e : Expr) (t : TE) : Prop where
  run : ∀ (pins : List (Addr × Obj)) (s : Shared) (σ : St) (H : Hp) (Q : VK), Inv X pins σ H s → t σ H Q → PySem.wpAt (model X.prog X.w) X.A (.func bd X.env) (eval e X.env) (EP X pins σ Q) X.xe s
section
variable {X : Cx} {bd : List Stmt} {a b e : Expr} {t ta tb t' : TE} {pos : Pos}
theorem PE.at (h : PE X e t) : PEAt X bd e t := ⟨fun pins s σ H Q I q => wpAt_of_wpAny (h.run pins s σ H Q I q)⟩
end
end L2
namespace FI
open PySem L2 PySem.Spec PyProof.Rows
structure FEa (g : Gm) (c : Sc) (q : SupC) (bd : List Stmt) (e : Expr) (f : SE) : Prop where
  run : ∀ X, XSup g c q X → ∀ W, L2N.Takes X W → PEAt X bd e (tE g W f)
section
variable {g : Gm} {c : Sc} {q : SupC} {bd : List Stmt} {a b e : Expr} {fa fb fe : SE} {pos : Pos}
theorem FE.at (h : FE g c e fe) : FEa g c q bd e fe := ⟨fun X i W t => (h.run X i.x W t).at⟩
end
end FI
namespace FI
open PySem PySem.Spec PyProof.Rows L2
structure PrpOkT (g : Gm) (k : Nat) (f : Str) (tab : List (Nat × Fn)) : Prop where
  ex : ∀ cn F, tab.lookup cn = some F → PrpOk g k cn f F
def ePropT (tab : List (Nat × Fn)) (fo : SE) : SE := fun gs G => bnd (fo gs G) fun o G1 => match o with
  | .ref n => match G1[n]? with
    | some (.ins c _) => match tab.lookup c with
      | some F => (match F [.ref n] G1 with
        | some (.val d, G2) => some (.val d, G2)
        | _ => none)
      | none => none
    | _ => none
  | _ => none
section
variable {g : Gm} {c : Sc} {o : Expr} {fo : SE} {k : Nat} {f : Str} {tab : List (Nat × Fn)} {pos : Pos}
theorem fe_propT (M : PrpOkT g k f tab) (hk : k + 1 ≤ c.k ∧ c.hot = false) (ho : FE g c o fo) (hab : ∀ env, attributeBase o f env (eval o env) = eval o env := by intro _; rfl) : FE g c (.Attribute o f pos) (ePropT tab fo) := ⟨fun X i W t => ⟨fun pins s σ H Q I ⟨ι, gs, G, ss, sh, h⟩ => by
  refine attr_of (hab X.env) (thn ((ho.run X i W t).run pins s σ H (fun x H1 => ∃ cn F a dx fs, x = .ref a ∧ H1 a = some (.ins (g.cls cn) dx fs) ∧ tab.lookup cn = some F ∧ spD g 1 F [.ref a] H1 Q (fun _ _ _ => False)) I ⟨ι, gs, G, ss, sh, h.bnd.imp fun d ι1 G1 H1 s1 t1 h1 v rv => ?_⟩) fun u s1 ⟨x, H1, I1, rx, cn, F, a, dx, fs, ex, ea, el, q⟩ => ?_)
  · cases rv with
    | @ref n a ha =>
      dsimp only at h1
      cases eg : G1[n]? with
      | none => rw [eg] at h1; exact h1.no
      | some ob =>
        rw [eg] at h1
        cases ob with
        | ins c0 fs =>
          dsimp only at h1
          cases el : tab.lookup c0 with
          | none => rw [el] at h1; exact h1.no
          | some F =>
            rw [el] at h1
            dsimp only at h1
            obtain ⟨u, hu, ro⟩ := t1.at_ n _ a eg ha
            cases ro with
            | ins rf =>
              refine ⟨c0, F, a, _, _, rfl, hu, el, rfl, ι1, [.ref n], G1, .cons (.ref ha) .nil, t1, ?_⟩
              cases eF : F [.ref n] G1 with
              | none => rw [eF] at h1; exact h1.no
              | some q =>
                obtain ⟨r, G2⟩ := q
                rw [eF] at h1
                cases r with
                | val d => exact ⟨.val d, G2, rfl, fun ι' H' a b => h1.val a b⟩
                | exc x => exact h1.no
        | _ => exact h1.no
    | _ => exact h1.no
  · obtain ⟨p, ga, fd, hp, hF, hb⟩ := (M.ex cn F el).ex
    subst ex
    obtain rfl : u = Value.ref a := rx
    exact getprop_ok (CX := L2N.CX g.P g.w) (C := g.cls cn) (dvs := []) (ds := []) (sp := spD g 1 F) I1 ea (by rw [i.K]; exact (M.ex cn F el).cl) (by rw [i.K]; exact hp) (by rw [i.P, i.w, i.K, i.mg, i.base]; exact hF) ((i.room hk.2).mono hk.1) (by rw [i.K]; exact hb) .nil
      (fun pins σ H s e s' _ z => by obtain ⟨_, _, _, _, _, _, _, _, _, _, _, _, z⟩ := z; exact z) q⟩⟩
end
end FI
set_option maxRecDepth 100000
set_option maxHeartbeats 2000000
namespace FI
open PySem L2 PySem.Spec PyProof.Rows
theorem kw_len1 {f : SE} {n : Nat} (hn : n = 1 := by rfl) : ∀ (gs : Sg) (G : Hh) (vs : List D) (G' : Hh), aCons f aNil gs G = some (.val vs, G') → vs.length = n := fun gs G vs G' h => by
  subst hn
  unfold aCons at h
  cases e : f gs G with
  | none => rw [e] at h; exact nomatch h
  | some p =>
    obtain ⟨r, G1⟩ := p
    rw [e] at h
    cases r with
    | exc x => exact nomatch h
    | val d =>
      rw [bnd_val] at h
      unfold aNil at h
      rw [bnd_val] at h
      cases h
      rfl
section
variable {g : Gm} {k : Nat} {ps : List Str} {fd : FuncData}
theorem dbnd_starW {pv kw : Str} (hb : ∀ (us rest : List Value) (w : Value), us.length = ps.length → bindArgs fd ⟨us ++ rest, [(kw, w)]⟩ = (newTuple rest >>= fun t => pure (ps.zip us ++ [(kw, w), (pv, t)]))) : DBnd g fd (ps ++ [kw, pv]) [kw] (bStarW ps.length) := fun A outer s H us ws vs ds es G ι E e0 hw r rd sh hB => by
  obtain ⟨w, rfl⟩ : ∃ w, ws = [w] := match ws, hw with | [w], _ => ⟨w, rfl⟩
  unfold bStarW at hB
  by_cases hl : ps.length + 1 ≤ ds.length ∧ ds.length ≤ 100000
  · rw [if_pos hl] at hB
    have hvl := rd.length
    obtain ⟨d1, d0, rfl⟩ : ∃ d1 d0, ds = d1 ++ [d0] := ⟨ds.dropLast, ds.getLast (by intro h; rw [h] at hl; simp at hl), (List.dropLast_concat_getLast _).symm⟩
    obtain ⟨v1, v0, rfl⟩ : ∃ v1 v0, vs = v1 ++ [v0] := ⟨vs.dropLast, vs.getLast (by intro h; rw [h] at hvl; simp at hvl), (List.dropLast_concat_getLast _).symm⟩
    have hdv : d1.length = v1.length := by simpa using hvl
    have hl2 : ps.length ≤ d1.length ∧ d1.length + 1 ≤ 100000 := by simpa using hl
    have rd1 : RelDs g ι H d1 v1 := by
      have := rd.take d1.length
      rw [List.take_left' rfl, List.take_left' hdv.symm] at this
      exact this
    have rd0 : RelDs g ι H [d0] [v0] := by
      have := rd.drop d1.length
      rw [List.drop_left' rfl, List.drop_left' hdv.symm] at this
      exact this
    have e0' : (d1 ++ [d0])[(d1 ++ [d0]).length - 1]? = some d0 := by simp
    rw [e0'] at hB
    dsimp only at hB
    have e1 : (d1 ++ [d0]).take ps.length = d1.take ps.length := List.take_append_of_le_length hl2.1
    have e2 : ((d1 ++ [d0]).drop ps.length).dropLast = d1.drop ps.length := by
      rw [List.drop_append_of_le_length hl2.1, List.dropLast_concat]
    rw [e1, e2] at hB
    cases hB
    obtain ⟨u1, u2, eu, r1, r0⟩ := StX.vals_split r
    have hu2 : u2.length = 1 := by have := r0.length; simpa using this.symm
    obtain ⟨rfl, rfl⟩ : us = u1 ∧ [w] = u2 := List.append_inj' eu hu2.symm
    have ev : v1 = v1.take ps.length ++ v1.drop ps.length := (List.take_append_drop _ _).symm
    rw [ev] at r1
    obtain ⟨ua, ub, eu2, ra, rb⟩ := StX.vals_split r1
    subst eu2
    have hla : ua.length = ps.length := by rw [← ra.length, List.length_take]; omega
    have hlb : ub.length ≤ sizeLine := by
      have := rb.length
      rw [List.length_drop] at this
      have h3 : ub.length ≤ 100000 := by omega
      exact line_of h3
    intro A' Ex Q k
    rw [show [kw].zip [w] = [(kw, w)] from rfl, hb ua ub w hla]
    have hn : H s.heap.objs.size = none := e0.hok.fresh (Nat.le_refl _)
    refine wpAny_bind (wpAny_newTuple (wpAny_pure ?_) hlb)
    have hz : (v1.drop ps.length).length ≤ sizeLine := by rw [rb.length]; exact hlb
    have new : ObjOk g.P g.w (upd H s.heap.objs.size (.tup (v1.drop ps.length))) (s.heap.push ({ cls := .type "tuple", data := .seq ub.toArray } : Obj)) s.heap.objs.size (.tup (v1.drop ps.length)) := ⟨hz, ub, rb, ⟨_, Heap.get?_push_size _ rfl, rfl, _, rfl⟩⟩
    have un := StX.un_laid (fs := frs outer) (s := s) (o := ({ cls := .type "tuple", data := .seq ub.toArray } : Obj)) (u := .tup (v1.drop ps.length)) hn
    have r0' : RelV v0 w := by
      cases r0 with
      | cons h _ => exact h
    have rd0' : RelD g ι H d0 v0 := by
      cases rd0 with
      | cons h _ => exact h
    have z := k _ _ (v1.take ps.length ++ [v0, V.ref s.heap.objs.size]) (ua ++ [w, Value.ref s.heap.objs.size]) (StX.env0_laid e0 new) un rfl (fun e s' => L2.cxUpN outer s H _ _ E e s' un (fun b o q => Heap.get?_push_of_some _ q) rfl) (ra.append (.cons r0' (.cons rfl .nil)))
      (by rw [List.length_append, List.length_append, List.length_take]; show min _ _ + 2 = _ + 2; omega) ⟨stp_upd_new hn, sh.new hn, ((rd1.take _).mono (stp_upd_new hn)).append (.cons (rd0'.mono (stp_upd_new hn)) (.one (new_tup hn (rd1.drop _))))⟩
    rw [List.zip_append hla.symm] at z
    exact z
  · rw [if_neg hl] at hB; cases hB
end
end FI
set_option maxRecDepth 100000
set_option maxHeartbeats 4000000
namespace FI.K00
open PySem L2 PySem.Spec PyProof.Rows FI
def top (i : Nat) : Stmt := PySem.Challenge.pw_withincall_k00_pipelines_checked.main.body.getD i (.Pass ⟨0, 0, 0, 0⟩)
abbrev s__law_same : Stmt := top 23
abbrev s__law_same_row : Stmt := top 24
abbrev s__law_cell : Stmt := top 20
abbrev s__law_bag : Stmt := top 21
abbrev s__law_draw : Stmt := top 22
abbrev s__law_pairs : Stmt := top 44
abbrev s_numbers_by_end : Stmt := top 16
abbrev s_Net_init : Stmt := inClass (top 17) 4
abbrev s_is_integer : Stmt := top 10
abbrev s_is_channel : Stmt := top 12
abbrev s_Net_is_capacity : Stmt := inClass (top 17) 5
abbrev s_check_channels : Stmt := top 13
abbrev s_has_circle : Stmt := top 15
abbrev s_Pipeline_init : Stmt := inClass (top 18) 0
abbrev s__law_keyed : Stmt := top 35
abbrev s__law_forty : Stmt := top 33
abbrev s__law_full : Stmt := top 31
abbrev s__law_over : Stmt := top 32
abbrev s__law_left_out : Stmt := top 34
abbrev s__law_same_rows : Stmt := top 25
abbrev s_Net_slots : Stmt := inClass (top 17) 6
abbrev s__law_good : Stmt := top 36
abbrev s__law_answered : Stmt := top 37
abbrev s__law_number : Stmt := top 27
abbrev s__law_channel_fault : Stmt := top 28
abbrev s__law_circle : Stmt := top 29
abbrev s__law_fault : Stmt := top 30
abbrev s__law_large : Stmt := top 45
abbrev s__law_order : Stmt := top 26
abbrev s__law_round_trip : Stmt := top 46
abbrev s__law_count : Stmt := top 38
abbrev s__law_size : Stmt := top 41
abbrev s__law_bent : Stmt := top 40
abbrev s__law_given : Stmt := top 42
abbrev s__law_extra : Stmt := top 39
abbrev s__law_small : Stmt := top 43
abbrev s_law : Stmt := top 47
abbrev s_InvalidNet_init : Stmt := inClass (top 3) 0
def clsL : List Str := ["WithinCallError", "InvalidNet", "InvalidState", "InvalidMove", "InvalidText", "NotFound", "Blocked", "Net", "Pipeline", "Ring", "Unreachable", "TooLarge", "InvalidBox", "Box", "NoState", "Unrecoverable", "MoveOrder", "Contradiction", "Claim", "Note", "Evidence", "Census", "InvalidLimit", "InvalidName", "UnknownName", "NothingToUndo", "NothingToRedo", "Entry", "Desk"]
def fldL : List Str := (["reason", "position", "line", "number", "move", "channels", "at", "stages", "_incoming", "_outgoing", "objection", "size", "most", "lows", "highs", "certificate", "conflict", "_total", "_counts", "_kinds", "_reasons", "_layers", "_earliest", "_latest", "possible"] : List Str) ++ (["question", "record", "claim", "positive", "_net", "_notes", "_least", "_start", "_lows", "_totals", "value", "name", "word", "moves", "net_before", "state_before", "net_behind", "state_behind", "_state", "_limit", "_entries", "_undone", "_moves_made", "_targets", "limit"] : List Str)
def cIns : List Nat := [8]
def kt : Kit := [((.b "NoneType", .ty "bool"), false), ((.b "bool", .ty "bool"), true), ((.b "int", .ty "bool"), false), ((.b "str", .ty "bool"), false), ((.b "tuple", .ty "bool"), false), ((.b "list", .ty "bool"), false), ((.b "NoneType", .ty "int"), false), ((.b "bool", .ty "int"), true), ((.b "int", .ty "int"), true), ((.b "str", .ty "int"), false), ((.b "tuple", .ty "int"), false), ((.b "list", .ty "int"), false), ((.b "NoneType", .ty "str"), false), ((.b "bool", .ty "str"), false), ((.b "int", .ty "str"), false), ((.b "str", .ty "str"), true), ((.b "tuple", .ty "str"), false), ((.b "list", .ty "str"), false), ((.b "NoneType", .ty "tuple"), false), ((.b "bool", .ty "tuple"), false), ((.b "int", .ty "tuple"), false), ((.b "str", .ty "tuple"), false), ((.b "tuple", .ty "tuple"), true), ((.b "list", .ty "tuple"), false)]
def xkt : XKit := [((1, .gl "Blocked"), false), ((1, .gl "InvalidMove"), false), ((1, .gl "InvalidNet"), true), ((1, .gl "InvalidState"), false), ((1, .gl "InvalidText"), false), ((1, .gl "NotFound"), false), ((1, .ty "ValueError"), true)]
def ct_WithinCallError : List (Nat × Bool) := [(1, true)]
def N__law_same : List Str := ["_law_told", "_law_due"]
noncomputable def b__law_same : SS := bSeq (sIf (tB (eOp (dIs false) (eVar 1) (eC .non))) (bSeq (sRet (eOp (dIs false) (eVar 0) (eC .non))) bNil) bNil) (bSeq (sIf (tB (eOp (dIs false) (eVar 1) (eC (.bl true)))) (bSeq (sRet (eOp (dIs false) (eVar 0) (eC (.bl true)))) bNil) bNil) (bSeq (sIf (tB (eOp (dIs false) (eVar 1) (eC (.bl false)))) (bSeq (sRet (eOp (dIs false) (eVar 0) (eC (.bl false)))) bNil) bNil) (bSeq (sIf (tB (eArgs (d2 (bIsi kt)) (aCons (eVar 1) (aCons (eC (.ty "int")) aNil)))) (bSeq (sRet (eAnd (eArgs (d2 (bIsi kt)) (aCons (eVar 0) (aCons (eC (.ty "int")) aNil))) (eAnd (eNot (eArgs (d2 (bIsi kt)) (aCons (eVar 0) (aCons (eC (.ty "bool")) aNil)))) (eOp (dEqv false) (eVar 0) (eVar 1))))) bNil) bNil) (bSeq (sRet (eAnd (eArgs (d2 (bIsi kt)) (aCons (eVar 0) (aCons (eC (.ty "str")) aNil))) (eOp (dEqv false) (eVar 0) (eVar 1)))) bNil))))
noncomputable def F__law_same : Fn := mkFnB (bPlain 2) N__law_same.length b__law_same
def N__law_same_row : List Str := ["_law_told", "_law_due", "_law_k"]
noncomputable def b__law_same_row : SS := bSeq (sIf (tOr' (tNot' (tB (eArgs (d2 (bIsi kt)) (aCons (eVar 0) (aCons (eC (.ty "tuple")) aNil))))) (tB (eOp (dEqv true) (eArgs (d1 bLen) (aCons (eVar 0) aNil)) (eArgs (d1 bLen) (aCons (eVar 1) aNil))))) (bSeq (sRet (eC (.bl false))) bNil) bNil) (bSeq (sFor (wRng1 (aCons (eArgs (d1 bLen) (aCons (eVar 1) aNil)) aNil)) (gNm 2) (bSeq (sIf (tNot' (tB (eCall F__law_same (aCons (eOp dIx (eVar 0) (eVar 2)) (aCons (eOp dIx (eVar 1) (eVar 2)) aNil))))) (bSeq (sRet (eC (.bl false))) bNil) bNil) bNil)) (bSeq (sRet (eC (.bl true))) bNil))
noncomputable def F__law_same_row : Fn := mkFnB (bPlain 2) N__law_same_row.length b__law_same_row
def N__law_cell : List Str := ["_law_script", "_law_k"]
noncomputable def b__law_cell : SS := bSeq (sIf (tB (eOp dLtA (eVar 1) (eArgs (d1 bLen) (aCons (eVar 0) aNil)))) (bSeq (sRet (eOp dIx (eVar 0) (eVar 1))) bNil) bNil) (bSeq (sRet (eOp dAdd (eOp dAdd (eOp dMul (eOp dMod (eArgs (d1 bInt) (aCons (eArgs (d1 bSum) (aCons (eSl (eVar 0) oNone (oSome (eC (.int 2)))) aNil)) aNil)) (eC (.int 1000003))) (eC (.int 8191))) (eOp dMul (eVar 1) (eC (.int 131)))) (eC (.int 257)))) bNil)
noncomputable def F__law_cell : Fn := mkFnB (bPlain 2) N__law_cell.length b__law_cell
def N__law_bag : List Str := ["_law_script", "_law_k", "_law_cell_here"]
noncomputable def b__law_bag : SS := bSeq (sAsg (eCall F__law_cell (aCons (eVar 0) (aCons (eVar 1) aNil))) (gNm 2)) (bSeq (sIf (tB (eOp dGe (eVar 2) (eOp dPow (eC (.int 10)) (eC (.int 18))))) (bSeq (sRet (eArgs dLst (aCons (eOp dSub (eVar 2) (eOp dPow (eC (.int 10)) (eC (.int 18)))) (aCons (eC (.int 0)) aNil)))) bNil) bNil) (bSeq (sRet (eArgs dLst (aCons (eOp dMod (eArgs (d1 bInt) (aCons (eVar 2) aNil)) (eC (.int 2147483647))) (aCons (eC (.int 1)) aNil)))) bNil))
noncomputable def F__law_bag : Fn := mkFnB (bPlain 2) N__law_bag.length b__law_bag
def N__law_draw : List Str := ["_law_bag_here", "_law_many", "_law_digit", "_law_mixed"]
noncomputable def b__law_draw : SS := bSeq (sIf (tB (eOp (dEqv false) (eOp dIx (eVar 0) (eC (.int 1))) (eC (.int 0)))) (bSeq (sAsg (eOp dMod (eArgs (d1 bInt) (aCons (eOp dIx (eVar 0) (eC (.int 0))) aNil)) (eVar 1)) (gNm 2)) (bSeq (sAsg (eOp dFdiv (eOp dIx (eVar 0) (eC (.int 0))) (eVar 1)) (gSb (eVar 0) (eC (.int 0)))) (bSeq (sRet (eVar 2)) bNil))) bNil) (bSeq (sAsg (eOp dMod (eArgs (d1 bInt) (aCons (eOp dAdd (eOp dAdd (eOp dMul (eOp dIx (eVar 0) (eC (.int 0))) (eC (.int 48271))) (eOp dMul (eOp dIx (eVar 0) (eC (.int 1))) (eC (.int 69621)))) (eC (.int 13))) aNil)) (eC (.int 2147483629))) (gNm 3)) (bSeq (sAsg (eOp dMod (eArgs (d1 bInt) (aCons (eOp dAdd (eOp dAdd (eOp dMul (eVar 3) (eVar 3)) (eOp dMul (eOp dIx (eVar 0) (eC (.int 1))) (eC (.int 16807)))) (eC (.int 5))) aNil)) (eC (.int 2147483587))) (gNm 3)) (bSeq (sAsg (eOp dMod (eArgs (d1 bInt) (aCons (eOp dAdd (eOp dAdd (eOp dMul (eVar 3) (eVar 3)) (eOp dIx (eVar 0) (eC (.int 0)))) (eC (.int 3))) aNil)) (eC (.int 2147483579))) (gNm 3)) (bSeq (sAsg (eOp dAdd (eOp dIx (eVar 0) (eC (.int 1))) (eC (.int 1))) (gSb (eVar 0) (eC (.int 1)))) (bSeq (sRet (eOp dMod (eArgs (d1 bInt) (aCons (eOp dFdiv (eVar 3) (eC (.int 16))) aNil)) (eVar 1))) bNil)))))
noncomputable def F__law_draw : Fn := mkFnB (bPlain 2) N__law_draw.length b__law_draw
def N__law_pairs : List Str := ["_law_count_here", "_law_pairs_here", "_law_a", "_law_b"]
noncomputable def b__law_pairs : SS := bSeq (sAsg (eArgs dLst aNil) (gNm 1)) (bSeq (sFor (wRng1 (aCons (eVar 0) aNil)) (gNm 2) (bSeq (sFor (wRng2 (aCons (eOp dAdd (eVar 2) (eC (.int 1))) (aCons (eVar 0) aNil))) (gNm 3) (bSeq (sIf (tB (eOp dLtA (eArgs (d1 bLen) (aCons (eVar 1) aNil)) (eC (.int 121)))) (bSeq (sDrop (eMtL (mLst fAppend) (eVar 1) (aCons (eArgs dTup (aCons (eVar 2) (aCons (eVar 3) aNil))) aNil))) bNil) bNil) bNil)) bNil)) (bSeq (sRet (eVar 1)) bNil))
noncomputable def F__law_pairs : Fn := mkFnB (bPlain 1) N__law_pairs.length b__law_pairs
def N_numbers_by_end : List Str := ["channels", "stages", "end", "found", "_", "number", "channel", "numbers"]
noncomputable def b_numbers_by_end : SS := bSeq (sAsg (eLc (wRng1 (aCons (eVar 1) aNil)) (gNm 4) tTrue (eArgs dLst aNil) [4]) (gNm 3)) (bSeq (sFor (wEnum (aCons (eVar 0) aNil)) (gTp 2 (gsCons (gNm 5) (gsCons (gNm 6) gsNil))) (bSeq (sDrop (eMtL (mLst fAppend) (eOp dIx (eVar 3) (eOp dIx (eVar 6) (eVar 2))) (aCons (eVar 5) aNil))) bNil)) (bSeq (sRet (eArgs (d1 bTuple) (aCons (eLc (wSeq (eVar 3)) (gNm 7) tTrue (eArgs (d1 bTuple) (aCons (eVar 7) aNil)) [7]) aNil))) bNil))
noncomputable def F_numbers_by_end : Fn := mkFnB (bPlain 3) N_numbers_by_end.length b_numbers_by_end
def N_Net_init : List Str := ["self", "stages", "channels"]
noncomputable def b_Net_init : SS := bSeq (sFld' cIns 7 (eVar 0) (eVar 1)) (bSeq (sFld' cIns 5 (eVar 0) (eVar 2)) (bSeq (sFld' cIns 8 (eVar 0) (eCall F_numbers_by_end (aCons (eVar 2) (aCons (eVar 1) (aCons (eC (.int 1)) aNil))))) (bSeq (sFld' cIns 9 (eVar 0) (eCall F_numbers_by_end (aCons (eVar 2) (aCons (eVar 1) (aCons (eC (.int 0)) aNil))))) bNil)))
noncomputable def F_Net_init : Fn := mkFnB (bPlain 3) N_Net_init.length b_Net_init
def N_is_integer : List Str := ["value"]
noncomputable def b_is_integer : SS := bSeq (sRet (eAnd (eArgs (d2 (bIsi kt)) (aCons (eVar 0) (aCons (eC (.ty "int")) aNil))) (eNot (eArgs (d2 (bIsi kt)) (aCons (eVar 0) (aCons (eC (.ty "bool")) aNil)))))) bNil
noncomputable def F_is_integer : Fn := mkFnB (bPlain 1) N_is_integer.length b_is_integer
def N_is_channel : List Str := ["channel", "stages", "stage"]
noncomputable def b_is_channel : SS := bSeq (sIf (tOr' (tNot' (tB (eArgs (d2 (bIsi kt)) (aCons (eVar 0) (aCons (eC (.ty "tuple")) aNil))))) (tB (eOp (dIn true) (eArgs (d1 bLen) (aCons (eVar 0) aNil)) (eArgs dTup (aCons (eC (.int 2)) (aCons (eC (.int 3)) aNil)))))) (bSeq (sRet (eC (.bl false))) bNil) bNil) (bSeq (sFor (wSeq (eSl (eVar 0) oNone (oSome (eC (.int 2))))) (gNm 2) (bSeq (sIf (tOr' (tNot' (tB (eCall F_is_integer (aCons (eVar 2) aNil)))) (tNot' (tB (eChain dLe dLtA (eC (.int 0)) (eVar 2) (eVar 1))))) (bSeq (sRet (eC (.bl false))) bNil) bNil) bNil)) (bSeq (sRet (eOp (dEqv true) (eOp dIx (eVar 0) (eC (.int 0))) (eOp dIx (eVar 0) (eC (.int 1))))) bNil))
noncomputable def F_is_channel : Fn := mkFnB (bPlain 2) N_is_channel.length b_is_channel
def N_Net_is_capacity : List Str := ["value"]
noncomputable def b_Net_is_capacity : SS := bSeq (sRet (eAnd (eCall F_is_integer (aCons (eVar 0) aNil)) (eChain dLe dLe (eC (.int 1)) (eVar 0) (eC (.int 999))))) bNil
noncomputable def F_Net_is_capacity : Fn := mkFnB (bPlain 1) N_Net_is_capacity.length b_Net_is_capacity
def N_check_channels : List Str := ["channels", "stages", "known", "position", "channel"]
noncomputable def b_check_channels : SS := bSeq (sAsg dNewT (gNm 2)) (bSeq (sFor (wEnum (aCons (eVar 0) aNil)) (gTp 2 (gsCons (gNm 3) (gsCons (gNm 4) gsNil))) (bSeq (sIf (tNot' (tB (eCall F_is_channel (aCons (eVar 4) (aCons (eVar 1) aNil))))) (bSeq (sRaise 1 2 [(0, 1), (1, 2)] (aCons (eC (.str "channel")) (aCons (eVar 3) aNil))) bNil) bNil) (bSeq (sIf (tAnd' (tB (eOp (dEqv false) (eArgs (d1 bLen) (aCons (eVar 4) aNil)) (eC (.int 3)))) (tNot' (tB (eCall F_Net_is_capacity (aCons (eOp dIx (eVar 4) (eC (.int 2))) aNil))))) (bSeq (sRaise 1 2 [(0, 1), (1, 2)] (aCons (eC (.str "capacity")) (aCons (eVar 3) aNil))) bNil) bNil) (bSeq (sIf (tB (eOp (dIn false) (eSl (eVar 4) oNone (oSome (eC (.int 2)))) (eVar 2))) (bSeq (sRaise 1 2 [(0, 1), (1, 2)] (aCons (eC (.str "duplicate")) (aCons (eVar 3) aNil))) bNil) bNil) (bSeq (sAsg (eC (.bl true)) (gSb (eVar 2) (eSl (eVar 4) oNone (oSome (eC (.int 2)))))) bNil))))) bNil)
noncomputable def F_check_channels : Fn := mkFnB (bPlain 2) N_check_channels.length b_check_channels
def N_has_circle : List Str := ["channels", "stages", "missing", "channel", "free", "stage", "removed"]
noncomputable def b_has_circle : SS := bSeq (sAsg (eOp dMul (eArgs dLst (aCons (eC (.int 0)) aNil)) (eVar 1)) (gNm 2)) (bSeq (sFor (wSeq (eVar 0)) (gNm 3) (bSeq (sAugS (fun i j => i + j) (eVar 2) (eOp dIx (eVar 3) (eC (.int 1))) (eC (.int 1))) bNil)) (bSeq (sAsg (eLc (wRng1 (aCons (eVar 1) aNil)) (gNm 5) (tB (eOp (dEqv false) (eOp dIx (eVar 2) (eVar 5)) (eC (.int 0)))) (eVar 5) [5]) (gNm 4)) (bSeq (sAsg (eC (.int 0)) (gNm 6)) (bSeq (sWhile (tB (eOp dGt (eArgs (d1 bLen) (aCons (eVar 4) aNil)) (eC (.int 0)))) (bSeq (sAsg (eMtL (mLst fPop) (eVar 4) aNil) (gNm 5)) (bSeq (sAugN 6 (fun i j => i + j) (eC (.int 1))) (bSeq (sFor (wSeq (eVar 0)) (gNm 3) (bSeq (sIf (tB (eOp (dEqv false) (eOp dIx (eVar 3) (eC (.int 0))) (eVar 5))) (bSeq (sAugS (fun i j => i - j) (eVar 2) (eOp dIx (eVar 3) (eC (.int 1))) (eC (.int 1))) (bSeq (sIf (tB (eOp (dEqv false) (eOp dIx (eVar 2) (eOp dIx (eVar 3) (eC (.int 1)))) (eC (.int 0)))) (bSeq (sDrop (eMtL (mLst fAppend) (eVar 4) (aCons (eOp dIx (eVar 3) (eC (.int 1))) aNil))) bNil) bNil) bNil)) bNil) bNil)) bNil)))) (bSeq (sRet (eOp dLtA (eVar 6) (eVar 1))) bNil)))))
noncomputable def F_has_circle : Fn := mkFnB (bPlain 2) N_has_circle.length b_has_circle
def N_Pipeline_init : List Str := ["self", "stages", "capacity", "channels", "triples", "channel"]
noncomputable def b_Pipeline_init : SS := bSeq (sIf (tOr' (tNot' (tB (eCall F_is_integer (aCons (eVar 1) aNil)))) (tNot' (tB (eChain dLe dLe (eC (.int 1)) (eVar 1) (eC (.int 40)))))) (bSeq (sRaise 1 2 [(0, 1), (1, 2)] (aCons (eC (.str "stages")) (aCons (eC .non) aNil))) bNil) bNil) (bSeq (sIf (tB (eOp dGt (eArgs (d1 bLen) (aCons (eVar 3) aNil)) (eC (.int 120)))) (bSeq (sRaise 1 2 [(0, 1), (1, 2)] (aCons (eC (.str "limit")) (aCons (eC .non) aNil))) bNil) bNil) (bSeq (sDrop (eCall F_check_channels (aCons (eVar 3) (aCons (eVar 1) aNil)))) (bSeq (sIf (tNot' (tB (eCall F_Net_is_capacity (aCons (eVar 2) aNil)))) (bSeq (sRaise 1 2 [(0, 1), (1, 2)] (aCons (eC (.str "capacity")) (aCons (eC .non) aNil))) bNil) bNil) (bSeq (sIf (tB (eCall F_has_circle (aCons (eVar 3) (aCons (eVar 1) aNil)))) (bSeq (sRaise 1 2 [(0, 1), (1, 2)] (aCons (eC (.str "circle")) (aCons (eC .non) aNil))) bNil) bNil) (bSeq (sAsg (eLc (wSeq (eVar 3)) (gNm 5) tTrue (eIf (tB (eOp (dEqv false) (eArgs (d1 bLen) (aCons (eVar 5) aNil)) (eC (.int 3)))) (eVar 5) (eArgs dTup (aCons (eOp dIx (eVar 5) (eC (.int 0))) (aCons (eOp dIx (eVar 5) (eC (.int 1))) (aCons (eVar 2) aNil))))) [5]) (gNm 4)) (bSeq (sSup 0 [(8, F_Net_init)] (aCons (eVar 1) (aCons (eArgs (d1 bTuple) (aCons (eArgs (bSorted) (aCons (eVar 4) aNil)) aNil)) aNil))) bNil))))))
noncomputable def F_Pipeline_init : Fn := mkFnB (bStarK 2 (.int 1)) N_Pipeline_init.length b_Pipeline_init
noncomputable def C_Pipeline : Fn := mkCls 8 F_Pipeline_init
noncomputable def FW_Pipeline_init : Fn := mkFnB (bStarW 2) N_Pipeline_init.length b_Pipeline_init
noncomputable def CW_Pipeline : Fn := mkCls 8 FW_Pipeline_init
def N__law_keyed : List Str := ["_law_count_here", "_law_c", "_law_extra_here"]
noncomputable def b__law_keyed : SS := bSeq (sIf (tB (eOp (dEqv false) (eArgs (d1 bLen) (aCons (eVar 1) aNil)) (eC (.int 0)))) (bSeq (sRet (eCallK CW_Pipeline (aCons (eVar 0) aNil) (aCons (eVar 2) aNil))) bNil) bNil) (bSeq (sIf (tB (eOp (dEqv false) (eArgs (d1 bLen) (aCons (eVar 1) aNil)) (eC (.int 1)))) (bSeq (sRet (eCallK CW_Pipeline (aCons (eVar 0) (aCons (eOp dIx (eVar 1) (eC (.int 0))) aNil)) (aCons (eVar 2) aNil))) bNil) bNil) (bSeq (sIf (tB (eOp (dEqv false) (eArgs (d1 bLen) (aCons (eVar 1) aNil)) (eC (.int 2)))) (bSeq (sRet (eCallK CW_Pipeline (aCons (eVar 0) (aCons (eOp dIx (eVar 1) (eC (.int 0))) (aCons (eOp dIx (eVar 1) (eC (.int 1))) aNil))) (aCons (eVar 2) aNil))) bNil) bNil) (bSeq (sIf (tB (eOp (dEqv false) (eArgs (d1 bLen) (aCons (eVar 1) aNil)) (eC (.int 3)))) (bSeq (sRet (eCallK CW_Pipeline (aCons (eVar 0) (aCons (eOp dIx (eVar 1) (eC (.int 0))) (aCons (eOp dIx (eVar 1) (eC (.int 1))) (aCons (eOp dIx (eVar 1) (eC (.int 2))) aNil)))) (aCons (eVar 2) aNil))) bNil) bNil) (bSeq (sIf (tB (eOp (dEqv false) (eArgs (d1 bLen) (aCons (eVar 1) aNil)) (eC (.int 4)))) (bSeq (sRet (eCallK CW_Pipeline (aCons (eVar 0) (aCons (eOp dIx (eVar 1) (eC (.int 0))) (aCons (eOp dIx (eVar 1) (eC (.int 1))) (aCons (eOp dIx (eVar 1) (eC (.int 2))) (aCons (eOp dIx (eVar 1) (eC (.int 3))) aNil))))) (aCons (eVar 2) aNil))) bNil) bNil) (bSeq (sIf (tB (eOp (dEqv false) (eArgs (d1 bLen) (aCons (eVar 1) aNil)) (eC (.int 5)))) (bSeq (sRet (eCallK CW_Pipeline (aCons (eVar 0) (aCons (eOp dIx (eVar 1) (eC (.int 0))) (aCons (eOp dIx (eVar 1) (eC (.int 1))) (aCons (eOp dIx (eVar 1) (eC (.int 2))) (aCons (eOp dIx (eVar 1) (eC (.int 3))) (aCons (eOp dIx (eVar 1) (eC (.int 4))) aNil)))))) (aCons (eVar 2) aNil))) bNil) bNil) (bSeq (sIf (tB (eOp (dEqv false) (eArgs (d1 bLen) (aCons (eVar 1) aNil)) (eC (.int 6)))) (bSeq (sRet (eCallK CW_Pipeline (aCons (eVar 0) (aCons (eOp dIx (eVar 1) (eC (.int 0))) (aCons (eOp dIx (eVar 1) (eC (.int 1))) (aCons (eOp dIx (eVar 1) (eC (.int 2))) (aCons (eOp dIx (eVar 1) (eC (.int 3))) (aCons (eOp dIx (eVar 1) (eC (.int 4))) (aCons (eOp dIx (eVar 1) (eC (.int 5))) aNil))))))) (aCons (eVar 2) aNil))) bNil) bNil) (bSeq (sRet (eCallK CW_Pipeline (aCons (eVar 0) (aCons (eOp dIx (eVar 1) (eC (.int 0))) (aCons (eOp dIx (eVar 1) (eC (.int 1))) (aCons (eOp dIx (eVar 1) (eC (.int 2))) (aCons (eOp dIx (eVar 1) (eC (.int 3))) (aCons (eOp dIx (eVar 1) (eC (.int 4))) (aCons (eOp dIx (eVar 1) (eC (.int 5))) (aCons (eOp dIx (eVar 1) (eC (.int 6))) aNil)))))))) (aCons (eVar 2) aNil))) bNil)))))))
noncomputable def F__law_keyed : Fn := mkFnB (bPlain 3) N__law_keyed.length b__law_keyed
def N__law_forty : List Str := ["_law_count_here", "_law_c"]
noncomputable def b__law_forty : SS := bSeq (sRet (eCall C_Pipeline (aCons (eVar 0) (aCons (eOp dIx (eVar 1) (eC (.int 0))) (aCons (eOp dIx (eVar 1) (eC (.int 1))) (aCons (eOp dIx (eVar 1) (eC (.int 2))) (aCons (eOp dIx (eVar 1) (eC (.int 3))) (aCons (eOp dIx (eVar 1) (eC (.int 4))) (aCons (eOp dIx (eVar 1) (eC (.int 5))) (aCons (eOp dIx (eVar 1) (eC (.int 6))) (aCons (eOp dIx (eVar 1) (eC (.int 7))) (aCons (eOp dIx (eVar 1) (eC (.int 8))) (aCons (eOp dIx (eVar 1) (eC (.int 9))) (aCons (eOp dIx (eVar 1) (eC (.int 10))) (aCons (eOp dIx (eVar 1) (eC (.int 11))) (aCons (eOp dIx (eVar 1) (eC (.int 12))) (aCons (eOp dIx (eVar 1) (eC (.int 13))) (aCons (eOp dIx (eVar 1) (eC (.int 14))) (aCons (eOp dIx (eVar 1) (eC (.int 15))) (aCons (eOp dIx (eVar 1) (eC (.int 16))) (aCons (eOp dIx (eVar 1) (eC (.int 17))) (aCons (eOp dIx (eVar 1) (eC (.int 18))) (aCons (eOp dIx (eVar 1) (eC (.int 19))) (aCons (eOp dIx (eVar 1) (eC (.int 20))) (aCons (eOp dIx (eVar 1) (eC (.int 21))) (aCons (eOp dIx (eVar 1) (eC (.int 22))) (aCons (eOp dIx (eVar 1) (eC (.int 23))) (aCons (eOp dIx (eVar 1) (eC (.int 24))) (aCons (eOp dIx (eVar 1) (eC (.int 25))) (aCons (eOp dIx (eVar 1) (eC (.int 26))) (aCons (eOp dIx (eVar 1) (eC (.int 27))) (aCons (eOp dIx (eVar 1) (eC (.int 28))) (aCons (eOp dIx (eVar 1) (eC (.int 29))) (aCons (eOp dIx (eVar 1) (eC (.int 30))) (aCons (eOp dIx (eVar 1) (eC (.int 31))) (aCons (eOp dIx (eVar 1) (eC (.int 32))) (aCons (eOp dIx (eVar 1) (eC (.int 33))) (aCons (eOp dIx (eVar 1) (eC (.int 34))) (aCons (eOp dIx (eVar 1) (eC (.int 35))) (aCons (eOp dIx (eVar 1) (eC (.int 36))) (aCons (eOp dIx (eVar 1) (eC (.int 37))) (aCons (eOp dIx (eVar 1) (eC (.int 38))) (aCons (eOp dIx (eVar 1) (eC (.int 39))) aNil))))))))))))))))))))))))))))))))))))))))))) bNil
noncomputable def F__law_forty : Fn := mkFnB (bPlain 2) N__law_forty.length b__law_forty
def N__law_full : List Str := ["_law_count_here", "_law_c"]
noncomputable def b__law_full : SS := bSeq (sRet (eCall C_Pipeline (aCons (eVar 0) (aCons (eOp dIx (eVar 1) (eC (.int 0))) (aCons (eOp dIx (eVar 1) (eC (.int 1))) (aCons (eOp dIx (eVar 1) (eC (.int 2))) (aCons (eOp dIx (eVar 1) (eC (.int 3))) (aCons (eOp dIx (eVar 1) (eC (.int 4))) (aCons (eOp dIx (eVar 1) (eC (.int 5))) (aCons (eOp dIx (eVar 1) (eC (.int 6))) (aCons (eOp dIx (eVar 1) (eC (.int 7))) (aCons (eOp dIx (eVar 1) (eC (.int 8))) (aCons (eOp dIx (eVar 1) (eC (.int 9))) (aCons (eOp dIx (eVar 1) (eC (.int 10))) (aCons (eOp dIx (eVar 1) (eC (.int 11))) (aCons (eOp dIx (eVar 1) (eC (.int 12))) (aCons (eOp dIx (eVar 1) (eC (.int 13))) (aCons (eOp dIx (eVar 1) (eC (.int 14))) (aCons (eOp dIx (eVar 1) (eC (.int 15))) (aCons (eOp dIx (eVar 1) (eC (.int 16))) (aCons (eOp dIx (eVar 1) (eC (.int 17))) (aCons (eOp dIx (eVar 1) (eC (.int 18))) (aCons (eOp dIx (eVar 1) (eC (.int 19))) (aCons (eOp dIx (eVar 1) (eC (.int 20))) (aCons (eOp dIx (eVar 1) (eC (.int 21))) (aCons (eOp dIx (eVar 1) (eC (.int 22))) (aCons (eOp dIx (eVar 1) (eC (.int 23))) (aCons (eOp dIx (eVar 1) (eC (.int 24))) (aCons (eOp dIx (eVar 1) (eC (.int 25))) (aCons (eOp dIx (eVar 1) (eC (.int 26))) (aCons (eOp dIx (eVar 1) (eC (.int 27))) (aCons (eOp dIx (eVar 1) (eC (.int 28))) (aCons (eOp dIx (eVar 1) (eC (.int 29))) (aCons (eOp dIx (eVar 1) (eC (.int 30))) (aCons (eOp dIx (eVar 1) (eC (.int 31))) (aCons (eOp dIx (eVar 1) (eC (.int 32))) (aCons (eOp dIx (eVar 1) (eC (.int 33))) (aCons (eOp dIx (eVar 1) (eC (.int 34))) (aCons (eOp dIx (eVar 1) (eC (.int 35))) (aCons (eOp dIx (eVar 1) (eC (.int 36))) (aCons (eOp dIx (eVar 1) (eC (.int 37))) (aCons (eOp dIx (eVar 1) (eC (.int 38))) (aCons (eOp dIx (eVar 1) (eC (.int 39))) (aCons (eOp dIx (eVar 1) (eC (.int 40))) (aCons (eOp dIx (eVar 1) (eC (.int 41))) (aCons (eOp dIx (eVar 1) (eC (.int 42))) (aCons (eOp dIx (eVar 1) (eC (.int 43))) (aCons (eOp dIx (eVar 1) (eC (.int 44))) (aCons (eOp dIx (eVar 1) (eC (.int 45))) (aCons (eOp dIx (eVar 1) (eC (.int 46))) (aCons (eOp dIx (eVar 1) (eC (.int 47))) (aCons (eOp dIx (eVar 1) (eC (.int 48))) (aCons (eOp dIx (eVar 1) (eC (.int 49))) (aCons (eOp dIx (eVar 1) (eC (.int 50))) (aCons (eOp dIx (eVar 1) (eC (.int 51))) (aCons (eOp dIx (eVar 1) (eC (.int 52))) (aCons (eOp dIx (eVar 1) (eC (.int 53))) (aCons (eOp dIx (eVar 1) (eC (.int 54))) (aCons (eOp dIx (eVar 1) (eC (.int 55))) (aCons (eOp dIx (eVar 1) (eC (.int 56))) (aCons (eOp dIx (eVar 1) (eC (.int 57))) (aCons (eOp dIx (eVar 1) (eC (.int 58))) (aCons (eOp dIx (eVar 1) (eC (.int 59))) (aCons (eOp dIx (eVar 1) (eC (.int 60))) (aCons (eOp dIx (eVar 1) (eC (.int 61))) (aCons (eOp dIx (eVar 1) (eC (.int 62))) (aCons (eOp dIx (eVar 1) (eC (.int 63))) (aCons (eOp dIx (eVar 1) (eC (.int 64))) (aCons (eOp dIx (eVar 1) (eC (.int 65))) (aCons (eOp dIx (eVar 1) (eC (.int 66))) (aCons (eOp dIx (eVar 1) (eC (.int 67))) (aCons (eOp dIx (eVar 1) (eC (.int 68))) (aCons (eOp dIx (eVar 1) (eC (.int 69))) (aCons (eOp dIx (eVar 1) (eC (.int 70))) (aCons (eOp dIx (eVar 1) (eC (.int 71))) (aCons (eOp dIx (eVar 1) (eC (.int 72))) (aCons (eOp dIx (eVar 1) (eC (.int 73))) (aCons (eOp dIx (eVar 1) (eC (.int 74))) (aCons (eOp dIx (eVar 1) (eC (.int 75))) (aCons (eOp dIx (eVar 1) (eC (.int 76))) (aCons (eOp dIx (eVar 1) (eC (.int 77))) (aCons (eOp dIx (eVar 1) (eC (.int 78))) (aCons (eOp dIx (eVar 1) (eC (.int 79))) (aCons (eOp dIx (eVar 1) (eC (.int 80))) (aCons (eOp dIx (eVar 1) (eC (.int 81))) (aCons (eOp dIx (eVar 1) (eC (.int 82))) (aCons (eOp dIx (eVar 1) (eC (.int 83))) (aCons (eOp dIx (eVar 1) (eC (.int 84))) (aCons (eOp dIx (eVar 1) (eC (.int 85))) (aCons (eOp dIx (eVar 1) (eC (.int 86))) (aCons (eOp dIx (eVar 1) (eC (.int 87))) (aCons (eOp dIx (eVar 1) (eC (.int 88))) (aCons (eOp dIx (eVar 1) (eC (.int 89))) (aCons (eOp dIx (eVar 1) (eC (.int 90))) (aCons (eOp dIx (eVar 1) (eC (.int 91))) (aCons (eOp dIx (eVar 1) (eC (.int 92))) (aCons (eOp dIx (eVar 1) (eC (.int 93))) (aCons (eOp dIx (eVar 1) (eC (.int 94))) (aCons (eOp dIx (eVar 1) (eC (.int 95))) (aCons (eOp dIx (eVar 1) (eC (.int 96))) (aCons (eOp dIx (eVar 1) (eC (.int 97))) (aCons (eOp dIx (eVar 1) (eC (.int 98))) (aCons (eOp dIx (eVar 1) (eC (.int 99))) (aCons (eOp dIx (eVar 1) (eC (.int 100))) (aCons (eOp dIx (eVar 1) (eC (.int 101))) (aCons (eOp dIx (eVar 1) (eC (.int 102))) (aCons (eOp dIx (eVar 1) (eC (.int 103))) (aCons (eOp dIx (eVar 1) (eC (.int 104))) (aCons (eOp dIx (eVar 1) (eC (.int 105))) (aCons (eOp dIx (eVar 1) (eC (.int 106))) (aCons (eOp dIx (eVar 1) (eC (.int 107))) (aCons (eOp dIx (eVar 1) (eC (.int 108))) (aCons (eOp dIx (eVar 1) (eC (.int 109))) (aCons (eOp dIx (eVar 1) (eC (.int 110))) (aCons (eOp dIx (eVar 1) (eC (.int 111))) (aCons (eOp dIx (eVar 1) (eC (.int 112))) (aCons (eOp dIx (eVar 1) (eC (.int 113))) (aCons (eOp dIx (eVar 1) (eC (.int 114))) (aCons (eOp dIx (eVar 1) (eC (.int 115))) (aCons (eOp dIx (eVar 1) (eC (.int 116))) (aCons (eOp dIx (eVar 1) (eC (.int 117))) (aCons (eOp dIx (eVar 1) (eC (.int 118))) (aCons (eOp dIx (eVar 1) (eC (.int 119))) aNil))))))))))))))))))))))))))))))))))))))))))))))))))))))))))))))))))))))))))))))))))))))))))))))))))))))))))))))))))))))))))) bNil
noncomputable def F__law_full : Fn := mkFnB (bPlain 2) N__law_full.length b__law_full
def N__law_over : List Str := ["_law_count_here", "_law_c"]
noncomputable def b__law_over : SS := bSeq (sRet (eCall C_Pipeline (aCons (eVar 0) (aCons (eOp dIx (eVar 1) (eC (.int 0))) (aCons (eOp dIx (eVar 1) (eC (.int 1))) (aCons (eOp dIx (eVar 1) (eC (.int 2))) (aCons (eOp dIx (eVar 1) (eC (.int 3))) (aCons (eOp dIx (eVar 1) (eC (.int 4))) (aCons (eOp dIx (eVar 1) (eC (.int 5))) (aCons (eOp dIx (eVar 1) (eC (.int 6))) (aCons (eOp dIx (eVar 1) (eC (.int 7))) (aCons (eOp dIx (eVar 1) (eC (.int 8))) (aCons (eOp dIx (eVar 1) (eC (.int 9))) (aCons (eOp dIx (eVar 1) (eC (.int 10))) (aCons (eOp dIx (eVar 1) (eC (.int 11))) (aCons (eOp dIx (eVar 1) (eC (.int 12))) (aCons (eOp dIx (eVar 1) (eC (.int 13))) (aCons (eOp dIx (eVar 1) (eC (.int 14))) (aCons (eOp dIx (eVar 1) (eC (.int 15))) (aCons (eOp dIx (eVar 1) (eC (.int 16))) (aCons (eOp dIx (eVar 1) (eC (.int 17))) (aCons (eOp dIx (eVar 1) (eC (.int 18))) (aCons (eOp dIx (eVar 1) (eC (.int 19))) (aCons (eOp dIx (eVar 1) (eC (.int 20))) (aCons (eOp dIx (eVar 1) (eC (.int 21))) (aCons (eOp dIx (eVar 1) (eC (.int 22))) (aCons (eOp dIx (eVar 1) (eC (.int 23))) (aCons (eOp dIx (eVar 1) (eC (.int 24))) (aCons (eOp dIx (eVar 1) (eC (.int 25))) (aCons (eOp dIx (eVar 1) (eC (.int 26))) (aCons (eOp dIx (eVar 1) (eC (.int 27))) (aCons (eOp dIx (eVar 1) (eC (.int 28))) (aCons (eOp dIx (eVar 1) (eC (.int 29))) (aCons (eOp dIx (eVar 1) (eC (.int 30))) (aCons (eOp dIx (eVar 1) (eC (.int 31))) (aCons (eOp dIx (eVar 1) (eC (.int 32))) (aCons (eOp dIx (eVar 1) (eC (.int 33))) (aCons (eOp dIx (eVar 1) (eC (.int 34))) (aCons (eOp dIx (eVar 1) (eC (.int 35))) (aCons (eOp dIx (eVar 1) (eC (.int 36))) (aCons (eOp dIx (eVar 1) (eC (.int 37))) (aCons (eOp dIx (eVar 1) (eC (.int 38))) (aCons (eOp dIx (eVar 1) (eC (.int 39))) (aCons (eOp dIx (eVar 1) (eC (.int 40))) (aCons (eOp dIx (eVar 1) (eC (.int 41))) (aCons (eOp dIx (eVar 1) (eC (.int 42))) (aCons (eOp dIx (eVar 1) (eC (.int 43))) (aCons (eOp dIx (eVar 1) (eC (.int 44))) (aCons (eOp dIx (eVar 1) (eC (.int 45))) (aCons (eOp dIx (eVar 1) (eC (.int 46))) (aCons (eOp dIx (eVar 1) (eC (.int 47))) (aCons (eOp dIx (eVar 1) (eC (.int 48))) (aCons (eOp dIx (eVar 1) (eC (.int 49))) (aCons (eOp dIx (eVar 1) (eC (.int 50))) (aCons (eOp dIx (eVar 1) (eC (.int 51))) (aCons (eOp dIx (eVar 1) (eC (.int 52))) (aCons (eOp dIx (eVar 1) (eC (.int 53))) (aCons (eOp dIx (eVar 1) (eC (.int 54))) (aCons (eOp dIx (eVar 1) (eC (.int 55))) (aCons (eOp dIx (eVar 1) (eC (.int 56))) (aCons (eOp dIx (eVar 1) (eC (.int 57))) (aCons (eOp dIx (eVar 1) (eC (.int 58))) (aCons (eOp dIx (eVar 1) (eC (.int 59))) (aCons (eOp dIx (eVar 1) (eC (.int 60))) (aCons (eOp dIx (eVar 1) (eC (.int 61))) (aCons (eOp dIx (eVar 1) (eC (.int 62))) (aCons (eOp dIx (eVar 1) (eC (.int 63))) (aCons (eOp dIx (eVar 1) (eC (.int 64))) (aCons (eOp dIx (eVar 1) (eC (.int 65))) (aCons (eOp dIx (eVar 1) (eC (.int 66))) (aCons (eOp dIx (eVar 1) (eC (.int 67))) (aCons (eOp dIx (eVar 1) (eC (.int 68))) (aCons (eOp dIx (eVar 1) (eC (.int 69))) (aCons (eOp dIx (eVar 1) (eC (.int 70))) (aCons (eOp dIx (eVar 1) (eC (.int 71))) (aCons (eOp dIx (eVar 1) (eC (.int 72))) (aCons (eOp dIx (eVar 1) (eC (.int 73))) (aCons (eOp dIx (eVar 1) (eC (.int 74))) (aCons (eOp dIx (eVar 1) (eC (.int 75))) (aCons (eOp dIx (eVar 1) (eC (.int 76))) (aCons (eOp dIx (eVar 1) (eC (.int 77))) (aCons (eOp dIx (eVar 1) (eC (.int 78))) (aCons (eOp dIx (eVar 1) (eC (.int 79))) (aCons (eOp dIx (eVar 1) (eC (.int 80))) (aCons (eOp dIx (eVar 1) (eC (.int 81))) (aCons (eOp dIx (eVar 1) (eC (.int 82))) (aCons (eOp dIx (eVar 1) (eC (.int 83))) (aCons (eOp dIx (eVar 1) (eC (.int 84))) (aCons (eOp dIx (eVar 1) (eC (.int 85))) (aCons (eOp dIx (eVar 1) (eC (.int 86))) (aCons (eOp dIx (eVar 1) (eC (.int 87))) (aCons (eOp dIx (eVar 1) (eC (.int 88))) (aCons (eOp dIx (eVar 1) (eC (.int 89))) (aCons (eOp dIx (eVar 1) (eC (.int 90))) (aCons (eOp dIx (eVar 1) (eC (.int 91))) (aCons (eOp dIx (eVar 1) (eC (.int 92))) (aCons (eOp dIx (eVar 1) (eC (.int 93))) (aCons (eOp dIx (eVar 1) (eC (.int 94))) (aCons (eOp dIx (eVar 1) (eC (.int 95))) (aCons (eOp dIx (eVar 1) (eC (.int 96))) (aCons (eOp dIx (eVar 1) (eC (.int 97))) (aCons (eOp dIx (eVar 1) (eC (.int 98))) (aCons (eOp dIx (eVar 1) (eC (.int 99))) (aCons (eOp dIx (eVar 1) (eC (.int 100))) (aCons (eOp dIx (eVar 1) (eC (.int 101))) (aCons (eOp dIx (eVar 1) (eC (.int 102))) (aCons (eOp dIx (eVar 1) (eC (.int 103))) (aCons (eOp dIx (eVar 1) (eC (.int 104))) (aCons (eOp dIx (eVar 1) (eC (.int 105))) (aCons (eOp dIx (eVar 1) (eC (.int 106))) (aCons (eOp dIx (eVar 1) (eC (.int 107))) (aCons (eOp dIx (eVar 1) (eC (.int 108))) (aCons (eOp dIx (eVar 1) (eC (.int 109))) (aCons (eOp dIx (eVar 1) (eC (.int 110))) (aCons (eOp dIx (eVar 1) (eC (.int 111))) (aCons (eOp dIx (eVar 1) (eC (.int 112))) (aCons (eOp dIx (eVar 1) (eC (.int 113))) (aCons (eOp dIx (eVar 1) (eC (.int 114))) (aCons (eOp dIx (eVar 1) (eC (.int 115))) (aCons (eOp dIx (eVar 1) (eC (.int 116))) (aCons (eOp dIx (eVar 1) (eC (.int 117))) (aCons (eOp dIx (eVar 1) (eC (.int 118))) (aCons (eOp dIx (eVar 1) (eC (.int 119))) (aCons (eOp dIx (eVar 1) (eC (.int 120))) aNil)))))))))))))))))))))))))))))))))))))))))))))))))))))))))))))))))))))))))))))))))))))))))))))))))))))))))))))))))))))))))))) bNil
noncomputable def F__law_over : Fn := mkFnB (bPlain 2) N__law_over.length b__law_over
def N__law_left_out : List Str := ["_law_count_here", "_law_c"]
noncomputable def b__law_left_out : SS := bSeq (sIf (tB (eOp (dEqv false) (eArgs (d1 bLen) (aCons (eVar 1) aNil)) (eC (.int 0)))) (bSeq (sRet (eCall C_Pipeline (aCons (eVar 0) aNil))) bNil) bNil) (bSeq (sIf (tB (eOp (dEqv false) (eArgs (d1 bLen) (aCons (eVar 1) aNil)) (eC (.int 1)))) (bSeq (sRet (eCall C_Pipeline (aCons (eVar 0) (aCons (eOp dIx (eVar 1) (eC (.int 0))) aNil)))) bNil) bNil) (bSeq (sIf (tB (eOp (dEqv false) (eArgs (d1 bLen) (aCons (eVar 1) aNil)) (eC (.int 2)))) (bSeq (sRet (eCall C_Pipeline (aCons (eVar 0) (aCons (eOp dIx (eVar 1) (eC (.int 0))) (aCons (eOp dIx (eVar 1) (eC (.int 1))) aNil))))) bNil) bNil) (bSeq (sIf (tB (eOp (dEqv false) (eArgs (d1 bLen) (aCons (eVar 1) aNil)) (eC (.int 3)))) (bSeq (sRet (eCall C_Pipeline (aCons (eVar 0) (aCons (eOp dIx (eVar 1) (eC (.int 0))) (aCons (eOp dIx (eVar 1) (eC (.int 1))) (aCons (eOp dIx (eVar 1) (eC (.int 2))) aNil)))))) bNil) bNil) (bSeq (sIf (tB (eOp (dEqv false) (eArgs (d1 bLen) (aCons (eVar 1) aNil)) (eC (.int 4)))) (bSeq (sRet (eCall C_Pipeline (aCons (eVar 0) (aCons (eOp dIx (eVar 1) (eC (.int 0))) (aCons (eOp dIx (eVar 1) (eC (.int 1))) (aCons (eOp dIx (eVar 1) (eC (.int 2))) (aCons (eOp dIx (eVar 1) (eC (.int 3))) aNil))))))) bNil) bNil) (bSeq (sIf (tB (eOp (dEqv false) (eArgs (d1 bLen) (aCons (eVar 1) aNil)) (eC (.int 5)))) (bSeq (sRet (eCall C_Pipeline (aCons (eVar 0) (aCons (eOp dIx (eVar 1) (eC (.int 0))) (aCons (eOp dIx (eVar 1) (eC (.int 1))) (aCons (eOp dIx (eVar 1) (eC (.int 2))) (aCons (eOp dIx (eVar 1) (eC (.int 3))) (aCons (eOp dIx (eVar 1) (eC (.int 4))) aNil)))))))) bNil) bNil) (bSeq (sIf (tB (eOp (dEqv false) (eArgs (d1 bLen) (aCons (eVar 1) aNil)) (eC (.int 6)))) (bSeq (sRet (eCall C_Pipeline (aCons (eVar 0) (aCons (eOp dIx (eVar 1) (eC (.int 0))) (aCons (eOp dIx (eVar 1) (eC (.int 1))) (aCons (eOp dIx (eVar 1) (eC (.int 2))) (aCons (eOp dIx (eVar 1) (eC (.int 3))) (aCons (eOp dIx (eVar 1) (eC (.int 4))) (aCons (eOp dIx (eVar 1) (eC (.int 5))) aNil))))))))) bNil) bNil) (bSeq (sIf (tB (eOp (dEqv false) (eArgs (d1 bLen) (aCons (eVar 1) aNil)) (eC (.int 7)))) (bSeq (sRet (eCall C_Pipeline (aCons (eVar 0) (aCons (eOp dIx (eVar 1) (eC (.int 0))) (aCons (eOp dIx (eVar 1) (eC (.int 1))) (aCons (eOp dIx (eVar 1) (eC (.int 2))) (aCons (eOp dIx (eVar 1) (eC (.int 3))) (aCons (eOp dIx (eVar 1) (eC (.int 4))) (aCons (eOp dIx (eVar 1) (eC (.int 5))) (aCons (eOp dIx (eVar 1) (eC (.int 6))) aNil)))))))))) bNil) bNil) (bSeq (sIf (tB (eOp (dEqv false) (eArgs (d1 bLen) (aCons (eVar 1) aNil)) (eC (.int 40)))) (bSeq (sRet (eCall F__law_forty (aCons (eVar 0) (aCons (eVar 1) aNil)))) bNil) bNil) (bSeq (sIf (tB (eOp (dEqv false) (eArgs (d1 bLen) (aCons (eVar 1) aNil)) (eC (.int 120)))) (bSeq (sRet (eCall F__law_full (aCons (eVar 0) (aCons (eVar 1) aNil)))) bNil) bNil) (bSeq (sRet (eCall F__law_over (aCons (eVar 0) (aCons (eVar 1) aNil)))) bNil))))))))))
noncomputable def F__law_left_out : Fn := mkFnB (bPlain 2) N__law_left_out.length b__law_left_out
def N__law_same_rows : List Str := ["_law_told", "_law_due", "_law_k"]
noncomputable def b__law_same_rows : SS := bSeq (sIf (tOr' (tNot' (tB (eArgs (d2 (bIsi kt)) (aCons (eVar 0) (aCons (eC (.ty "tuple")) aNil))))) (tB (eOp (dEqv true) (eArgs (d1 bLen) (aCons (eVar 0) aNil)) (eArgs (d1 bLen) (aCons (eVar 1) aNil))))) (bSeq (sRet (eC (.bl false))) bNil) bNil) (bSeq (sFor (wRng1 (aCons (eArgs (d1 bLen) (aCons (eVar 1) aNil)) aNil)) (gNm 2) (bSeq (sIf (tNot' (tB (eCall F__law_same_row (aCons (eOp dIx (eVar 0) (eVar 2)) (aCons (eOp dIx (eVar 1) (eVar 2)) aNil))))) (bSeq (sRet (eC (.bl false))) bNil) bNil) bNil)) (bSeq (sRet (eC (.bl true))) bNil))
noncomputable def F__law_same_rows : Fn := mkFnB (bPlain 2) N__law_same_rows.length b__law_same_rows
def N_Net_slots : List Str := ["self", "channel"]
noncomputable def b_Net_slots : SS := bSeq (sRet (eArgs (d1 bSum) (aCons (eLc (wSeq (eUn (dFld cIns 5) (eVar 0))) (gNm 1) tTrue (eOp dIx (eVar 1) (eC (.int 2))) [1]) aNil))) bNil
noncomputable def Tp_slots : List (Nat × Fn) := [(8, mkFn 1 N_Net_slots.length b_Net_slots)]
def N__law_good : List Str := ["_law_net", "_law_count_here", "_law_given_here", "_law_extra_here", "_law_due", "_law_one"]
noncomputable def b__law_good : SS := bSeq (sAsg (eArgs dLst aNil) (gNm 4)) (bSeq (sFor (wSeq (eVar 2)) (gNm 5) (bSeq (sDrop (eMtL (mLst fAppend) (eVar 4) (aCons (eArgs dTup (aCons (eOp dIx (eVar 5) (eC (.int 0))) (aCons (eOp dIx (eVar 5) (eC (.int 1))) (aCons (eIf (tB (eOp (dEqv false) (eArgs (d1 bLen) (aCons (eVar 5) aNil)) (eC (.int 3)))) (eOp dIx (eVar 5) (eC (.int 2))) (eVar 3)) aNil)))) aNil))) bNil)) (bSeq (sIf (tNot' (tB (eCall F__law_same_rows (aCons (eUn (dFld cIns 5) (eVar 0)) (aCons (eArgs (d1 bTuple) (aCons (eArgs (bSorted) (aCons (eVar 4) aNil)) aNil)) aNil))))) (bSeq (sRet (eC (.bl false))) bNil) bNil) (bSeq (sRet (eAnd (eCall F__law_same (aCons (eUn (dFld cIns 7) (eVar 0)) (aCons (eVar 1) aNil))) (eCall F__law_same (aCons (ePropT Tp_slots (eVar 0)) (aCons (eArgs (d1 bSum) (aCons (eLc (wSeq (eVar 4)) (gNm 5) tTrue (eOp dIx (eVar 5) (eC (.int 2))) [5]) aNil)) aNil))))) bNil)))
noncomputable def F__law_good : Fn := mkFnB (bPlain 4) N__law_good.length b__law_good
def N__law_answered : List Str := ["_law_count_here", "_law_given_here", "_law_extra_here", "_law_keyed_here", "_law_due", "_law_net", "refusal"]
noncomputable def b__law_answered : SS := bSeq (sTryAs ct_WithinCallError 6 (bSeq (sIf (tB (eVar 3)) (bSeq (sAsg (eCall F__law_keyed (aCons (eVar 0) (aCons (eArgs (d1 bList) (aCons (eVar 1) aNil)) (aCons (eVar 2) aNil)))) (gNm 5)) bNil) (bSeq (sAsg (eCall F__law_left_out (aCons (eVar 0) (aCons (eArgs (d1 bList) (aCons (eVar 1) aNil)) aNil))) (gNm 5)) bNil)) bNil) (fun x => bSeq (sIf (tOr' (tNot' (tB (eIsX xkt x (eC (.glb "InvalidNet"))))) (tNot' (tB (eIsX xkt x (eC (.ty "ValueError")))))) (bSeq (sRet (eC (.bl false))) bNil) bNil) (bSeq (sIf (tB (eIsXT xkt x (eArgs dTup (aCons (eC (.glb "Blocked")) (aCons (eC (.glb "InvalidMove")) (aCons (eC (.glb "InvalidState")) (aCons (eC (.glb "InvalidText")) (aCons (eC (.glb "NotFound")) aNil)))))))) (bSeq (sRet (eC (.bl false))) bNil) bNil) (bSeq (sRet (eAnd (eOp (dIs true) (eVar 4) (eC .non)) (eCall F__law_same_row (aCons (eArgs dTup (aCons (eXf [1] 0 x) (aCons (eXf [1, 2] 1 x) aNil))) (aCons (eVar 4) aNil))))) bNil)))) (bSeq (sRet (eAnd (eOp (dIs false) (eVar 4) (eC .non)) (eCall F__law_good (aCons (eVar 5) (aCons (eVar 0) (aCons (eVar 1) (aCons (eVar 2) aNil))))))) bNil)
noncomputable def F__law_answered : Fn := mkFnB (bPlain 5) N__law_answered.length b__law_answered
def N__law_number : List Str := ["_law_thing", "_law_least", "_law_most"]
noncomputable def b__law_number : SS := bSeq (sRet (eAnd (eArgs (d2 (bIsi kt)) (aCons (eVar 0) (aCons (eC (.ty "int")) aNil))) (eAnd (eNot (eArgs (d2 (bIsi kt)) (aCons (eVar 0) (aCons (eC (.ty "bool")) aNil)))) (eChain dLe dLe (eVar 1) (eVar 0) (eVar 2))))) bNil
noncomputable def F__law_number : Fn := mkFnB (bPlain 3) N__law_number.length b__law_number
def N__law_channel_fault : List Str := ["_law_count_here", "_law_given_here", "_law_place", "_law_one", "_law_k"]
noncomputable def b__law_channel_fault : SS := bSeq (sAsg (eOp dIx (eVar 1) (eVar 2)) (gNm 3)) (bSeq (sIf (tOr' (tNot' (tB (eArgs (d2 (bIsi kt)) (aCons (eVar 3) (aCons (eC (.ty "tuple")) aNil))))) (tOr' (tB (eOp dLtA (eArgs (d1 bLen) (aCons (eVar 3) aNil)) (eC (.int 2)))) (tB (eOp dGt (eArgs (d1 bLen) (aCons (eVar 3) aNil)) (eC (.int 3)))))) (bSeq (sRet (eC (.str "channel"))) bNil) bNil) (bSeq (sIf (tOr' (tNot' (tB (eCall F__law_number (aCons (eOp dIx (eVar 3) (eC (.int 0))) (aCons (eC (.int 0)) (aCons (eOp dSub (eVar 0) (eC (.int 1))) aNil)))))) (tNot' (tB (eCall F__law_number (aCons (eOp dIx (eVar 3) (eC (.int 1))) (aCons (eC (.int 0)) (aCons (eOp dSub (eVar 0) (eC (.int 1))) aNil))))))) (bSeq (sRet (eC (.str "channel"))) bNil) bNil) (bSeq (sIf (tB (eOp (dEqv false) (eOp dIx (eVar 3) (eC (.int 0))) (eOp dIx (eVar 3) (eC (.int 1))))) (bSeq (sRet (eC (.str "channel"))) bNil) bNil) (bSeq (sIf (tAnd' (tB (eOp (dEqv false) (eArgs (d1 bLen) (aCons (eVar 3) aNil)) (eC (.int 3)))) (tNot' (tB (eCall F__law_number (aCons (eOp dIx (eVar 3) (eC (.int 2))) (aCons (eC (.int 1)) (aCons (eC (.int 999)) aNil))))))) (bSeq (sRet (eC (.str "capacity"))) bNil) bNil) (bSeq (sFor (wRng1 (aCons (eVar 2) aNil)) (gNm 4) (bSeq (sIf (tAnd' (tB (eOp (dEqv false) (eOp dIx (eOp dIx (eVar 1) (eVar 4)) (eC (.int 0))) (eOp dIx (eVar 3) (eC (.int 0))))) (tB (eOp (dEqv false) (eOp dIx (eOp dIx (eVar 1) (eVar 4)) (eC (.int 1))) (eOp dIx (eVar 3) (eC (.int 1)))))) (bSeq (sRet (eC (.str "duplicate"))) bNil) bNil) bNil)) (bSeq (sRet (eC (.str ""))) bNil))))))
noncomputable def F__law_channel_fault : Fn := mkFnB (bPlain 3) N__law_channel_fault.length b__law_channel_fault
def N__law_circle : List Str := ["_law_count_here", "_law_given_here", "_law_left", "_law_k", "_law_turn", "_law_ends", "_law_one", "_law_kept"]
noncomputable def b__law_circle : SS := bSeq (sAsg (eLc (wRng1 (aCons (eVar 0) aNil)) (gNm 3) tTrue (eVar 3) [3]) (gNm 2)) (bSeq (sFor (wRng1 (aCons (eVar 0) aNil)) (gNm 4) (bSeq (sAsg (eLc (wSeq (eVar 1)) (gNm 6) (tB (eOp (dIn false) (eOp dIx (eVar 6) (eC (.int 0))) (eVar 2))) (eOp dIx (eVar 6) (eC (.int 1))) [6]) (gNm 5)) (bSeq (sAsg (eLc (wSeq (eVar 2)) (gNm 3) (tB (eOp (dIn false) (eVar 3) (eVar 5))) (eVar 3) [3]) (gNm 7)) (bSeq (sIf (tB (eOp (dEqv false) (eVar 7) (eVar 2))) (bSeq sBreak bNil) bNil) (bSeq (sAsg (eVar 7) (gNm 2)) bNil))))) (bSeq (sRet (eOp dGt (eArgs (d1 bLen) (aCons (eVar 2) aNil)) (eC (.int 0)))) bNil))
noncomputable def F__law_circle : Fn := mkFnB (bPlain 2) N__law_circle.length b__law_circle
def N__law_fault : List Str := ["_law_count_here", "_law_given_here", "_law_extra_here", "_law_place", "_law_word"]
noncomputable def b__law_fault : SS := bSeq (sIf (tNot' (tB (eCall F__law_number (aCons (eVar 0) (aCons (eC (.int 1)) (aCons (eC (.int 40)) aNil)))))) (bSeq (sRet (eArgs dTup (aCons (eC (.str "stages")) (aCons (eC .non) aNil)))) bNil) bNil) (bSeq (sIf (tB (eOp dGt (eArgs (d1 bLen) (aCons (eVar 1) aNil)) (eC (.int 120)))) (bSeq (sRet (eArgs dTup (aCons (eC (.str "limit")) (aCons (eC .non) aNil)))) bNil) bNil) (bSeq (sFor (wRng1 (aCons (eArgs (d1 bLen) (aCons (eVar 1) aNil)) aNil)) (gNm 3) (bSeq (sAsg (eCall F__law_channel_fault (aCons (eVar 0) (aCons (eVar 1) (aCons (eVar 3) aNil)))) (gNm 4)) (bSeq (sIf (tB (eOp (dEqv true) (eVar 4) (eC (.str "")))) (bSeq (sRet (eArgs dTup (aCons (eVar 4) (aCons (eVar 3) aNil)))) bNil) bNil) bNil))) (bSeq (sIf (tNot' (tB (eCall F__law_number (aCons (eVar 2) (aCons (eC (.int 1)) (aCons (eC (.int 999)) aNil)))))) (bSeq (sRet (eArgs dTup (aCons (eC (.str "capacity")) (aCons (eC .non) aNil)))) bNil) bNil) (bSeq (sIf (tB (eCall F__law_circle (aCons (eVar 0) (aCons (eVar 1) aNil)))) (bSeq (sRet (eArgs dTup (aCons (eC (.str "circle")) (aCons (eC .non) aNil)))) bNil) bNil) (bSeq (sRet (eC .non)) bNil)))))
noncomputable def F__law_fault : Fn := mkFnB (bPlain 3) N__law_fault.length b__law_fault
def N__law_large : List Str := ["_law_bag_here", "_law_count_here", "_law_step", "_law_short", "_law_given_here", "_law_a", "_law_b", "_law_few", "_law_place", "_law_way"]
noncomputable def b__law_large : SS := bSeq (sAsg (eOp dAdd (eC (.int 16)) (eCall F__law_draw (aCons (eVar 0) (aCons (eC (.int 25)) aNil)))) (gNm 1)) (bSeq (sAsg (eOp dAdd (eC (.int 1)) (eCall F__law_draw (aCons (eVar 0) (aCons (eC (.int 998)) aNil)))) (gNm 2)) (bSeq (sAsg (eCall F__law_draw (aCons (eVar 0) (aCons (eC (.int 3)) aNil))) (gNm 3)) (bSeq (sAsg (eArgs dLst aNil) (gNm 4)) (bSeq (sFor (wSeq (eCall F__law_pairs (aCons (eVar 1) aNil))) (gTp 2 (gsCons (gNm 5) (gsCons (gNm 6) gsNil))) (bSeq (sIf (tB (eOp (dEqv false) (eOp dMod (eArgs (d1 bLen) (aCons (eVar 4) aNil)) (eC (.int 3))) (eVar 3))) (bSeq (sDrop (eMtL (mLst fAppend) (eVar 4) (aCons (eArgs dTup (aCons (eVar 5) (aCons (eVar 6) aNil))) aNil))) bNil) (bSeq (sDrop (eMtL (mLst fAppend) (eVar 4) (aCons (eArgs dTup (aCons (eVar 5) (aCons (eVar 6) (aCons (eOp dAdd (eC (.int 1)) (eOp dMod (eArgs (d1 bInt) (aCons (eOp dMul (eArgs (d1 bLen) (aCons (eVar 4) aNil)) (eVar 2)) aNil)) (eC (.int 999)))) aNil)))) aNil))) bNil)) bNil)) (bSeq (sIf (tB (eOp (dEqv false) (eCall F__law_draw (aCons (eVar 0) (aCons (eC (.int 2)) aNil))) (eC (.int 1)))) (bSeq (sAsg (eUn dRevL (eVar 4)) (gNm 4)) bNil) bNil) (bSeq (sIf (tB (eOp dLtA (eArgs (d1 bLen) (aCons (eVar 4) aNil)) (eC (.int 121)))) (bSeq (sDrop (eMtL (mLst fAppend) (eVar 4) (aCons (eArgs dTup (aCons (eC (.int 1)) (aCons (eC (.int 0)) aNil))) aNil))) bNil) bNil) (bSeq (sAsg (eSl (eVar 4) oNone (oSome (eC (.int 120)))) (gNm 7)) (bSeq (sIf (tNot' (tB (eCall F__law_answered (aCons (eVar 1) (aCons (eVar 7) (aCons (eC (.int 1)) (aCons (eC (.bl false)) (aCons (eCall F__law_fault (aCons (eVar 1) (aCons (eVar 7) (aCons (eC (.int 1)) aNil)))) aNil)))))))) (bSeq (sRet (eC (.bl false))) bNil) bNil) (bSeq (sAsg (eCall F__law_draw (aCons (eVar 0) (aCons (eC (.int 120)) aNil))) (gNm 8)) (bSeq (sAsg (eCall F__law_draw (aCons (eVar 0) (aCons (eC (.int 6)) aNil))) (gNm 9)) (bSeq (sAsg (eOp dIx (eArgs dLst (aCons (eArgs dTup (aCons (eC (.int 3)) (aCons (eC (.int 3)) aNil))) (aCons (eArgs dTup (aCons (eC (.int 0)) (aCons (eC (.int 1)) (aCons (eC (.int 1000)) aNil)))) (aCons (eOp dIx (eVar 7) (eOp dSub (eVar 8) (eC (.int 1)))) (aCons (eArgs dTup (aCons (eC (.int 15)) (aCons (eC (.int 0)) (aCons (eC (.int 4)) aNil)))) (aCons (eArgs dTup (aCons (eC (.int 1)) (aCons (eC (.int 0)) aNil))) (aCons (eArgs dLst (aCons (eC (.int 1)) (aCons (eC (.int 2)) aNil))) aNil))))))) (eVar 9)) (gSb (eVar 4) (eVar 8))) (bSeq (sAsg (eSl (eVar 4) oNone (oSome (eC (.int 120)))) (gNm 7)) (bSeq (sIf (tNot' (tB (eCall F__law_answered (aCons (eVar 1) (aCons (eVar 7) (aCons (eC (.int 1)) (aCons (eC (.bl false)) (aCons (eCall F__law_fault (aCons (eVar 1) (aCons (eVar 7) (aCons (eC (.int 1)) aNil)))) aNil)))))))) (bSeq (sRet (eC (.bl false))) bNil) bNil) (bSeq (sIf (tB (eOp (dEqv false) (eCall F__law_draw (aCons (eVar 0) (aCons (eC (.int 3)) aNil))) (eC (.int 0)))) (bSeq (sAsg (eOp dIx (eArgs dLst (aCons (eC (.int 0)) (aCons (eC (.int 41)) (aCons (eC (.bl true)) aNil)))) (eCall F__law_draw (aCons (eVar 0) (aCons (eC (.int 3)) aNil)))) (gNm 1)) bNil) bNil) (bSeq (sRet (eCall F__law_answered (aCons (eVar 1) (aCons (eVar 4) (aCons (eC (.int 1)) (aCons (eC (.bl false)) (aCons (eCall F__law_fault (aCons (eVar 1) (aCons (eVar 4) (aCons (eC (.int 1)) aNil)))) aNil))))))) bNil)))))))))))))))
noncomputable def F__law_large : Fn := mkFnB (bPlain 1) N__law_large.length b__law_large
def N__law_order : List Str := ["_law_bag_here", "_law_many", "_law_left", "_law_k", "_law_row"]
noncomputable def b__law_order : SS := bSeq (sAsg (eLc (wRng1 (aCons (eVar 1) aNil)) (gNm 3) tTrue (eVar 3) [3]) (gNm 2)) (bSeq (sAsg (eArgs dLst aNil) (gNm 4)) (bSeq (sFor (wRng1 (aCons (eVar 1) aNil)) (gNm 3) (bSeq (sDrop (eMtL (mLst fAppend) (eVar 4) (aCons (eMtL (mLst fPop) (eVar 2) (aCons (eCall F__law_draw (aCons (eVar 0) (aCons (eArgs (d1 bLen) (aCons (eVar 2) aNil)) aNil))) aNil)) aNil))) bNil)) (bSeq (sRet (eVar 4)) bNil)))
noncomputable def F__law_order : Fn := mkFnB (bPlain 2) N__law_order.length b__law_order
def N__law_round_trip : List Str := ["_law_bag_here", "_law_turned", "_law_step", "_law_given_here", "_law_k", "_law_place", "_law_ends", "_law_last", "_law_row"]
noncomputable def b__law_round_trip : SS := bSeq (sAsg (eCall F__law_order (aCons (eVar 0) (aCons (eC (.int 40)) aNil))) (gNm 1)) (bSeq (sAsg (eOp dAdd (eC (.int 1)) (eCall F__law_draw (aCons (eVar 0) (aCons (eC (.int 998)) aNil)))) (gNm 2)) (bSeq (sAsg (eLc (wRng1 (aCons (eC (.int 39)) aNil)) (gNm 4) tTrue (eArgs dTup (aCons (eOp dIx (eVar 1) (eVar 4)) (aCons (eOp dIx (eVar 1) (eOp dAdd (eVar 4) (eC (.int 1)))) (aCons (eOp dAdd (eC (.int 1)) (eOp dMod (eArgs (d1 bInt) (aCons (eOp dMul (eVar 4) (eVar 2)) aNil)) (eC (.int 999)))) aNil)))) [4]) (gNm 3)) (bSeq (sAsg (eCall F__law_draw (aCons (eVar 0) (aCons (eC (.int 40)) aNil))) (gNm 5)) (bSeq (sAsg (eArgs dLst (aCons (eOp dIx (eVar 1) (eC (.int 39))) (aCons (eOp dIx (eVar 1) (eC (.int 0))) aNil))) (gNm 6)) (bSeq (sFor (wSeq (eArgs dLst (aCons (eArgs dTup (aCons (eOp dIx (eVar 6) (eC (.int 0))) (aCons (eOp dIx (eVar 6) (eC (.int 1))) aNil))) (aCons (eArgs dTup (aCons (eOp dIx (eVar 6) (eC (.int 1))) (aCons (eOp dIx (eVar 6) (eC (.int 0))) aNil))) aNil)))) (gNm 7) (bSeq (sAsg (eOp dAdd (eOp dAdd (eSl (eVar 3) oNone (oSome (eVar 5))) (eArgs dLst (aCons (eVar 7) aNil))) (eSl (eVar 3) (oSome (eVar 5)) oNone)) (gNm 8)) (bSeq (sIf (tNot' (tB (eCall F__law_answered (aCons (eC (.int 40)) (aCons (eVar 8) (aCons (eC (.int 1)) (aCons (eC (.bl false)) (aCons (eCall F__law_fault (aCons (eC (.int 40)) (aCons (eVar 8) (aCons (eC (.int 1)) aNil)))) aNil)))))))) (bSeq (sRet (eC (.bl false))) bNil) bNil) bNil))) (bSeq (sRet (eC (.bl true))) bNil))))))
noncomputable def F__law_round_trip : Fn := mkFnB (bPlain 1) N__law_round_trip.length b__law_round_trip
def N__law_count : List Str := ["_law_bag_here", "_law_way"]
noncomputable def b__law_count : SS := bSeq (sAsg (eCall F__law_draw (aCons (eVar 0) (aCons (eC (.int 8)) aNil))) (gNm 1)) (bSeq (sIf (tB (eOp (dEqv false) (eVar 1) (eC (.int 0)))) (bSeq (sRet (eOp dIx (eArgs dLst (aCons (eC (.int 0)) (aCons (eUn dNeg (eC (.int 1))) (aCons (eC (.int 41)) (aCons (eC (.int 1000)) (aCons (eOp dPow (eC (.int 10)) (eC (.int 20))) (aCons (eC (.bl true)) (aCons (eC (.bl false)) (aCons (eC .non) (aCons (eC (.str "3")) (aCons (eArgs dTup (aCons (eC (.int 3)) aNil)) aNil))))))))))) (eCall F__law_draw (aCons (eVar 0) (aCons (eC (.int 10)) aNil))))) bNil) bNil) (bSeq (sIf (tB (eOp (dEqv false) (eVar 1) (eC (.int 1)))) (bSeq (sRet (eOp dAdd (eC (.int 1)) (eCall F__law_draw (aCons (eVar 0) (aCons (eC (.int 40)) aNil))))) bNil) bNil) (bSeq (sRet (eOp dAdd (eC (.int 1)) (eCall F__law_draw (aCons (eVar 0) (aCons (eC (.int 6)) aNil))))) bNil)))
noncomputable def F__law_count : Fn := mkFnB (bPlain 1) N__law_count.length b__law_count
def N__law_size : List Str := ["_law_bag_here", "_law_way"]
noncomputable def b__law_size : SS := bSeq (sAsg (eCall F__law_draw (aCons (eVar 0) (aCons (eC (.int 8)) aNil))) (gNm 1)) (bSeq (sIf (tB (eOp (dEqv false) (eVar 1) (eC (.int 0)))) (bSeq (sRet (eOp dAdd (eC (.int 1)) (eCall F__law_draw (aCons (eVar 0) (aCons (eC (.int 999)) aNil))))) bNil) bNil) (bSeq (sIf (tB (eOp (dEqv false) (eVar 1) (eC (.int 1)))) (bSeq (sRet (eOp dSub (eC (.int 999)) (eOp dMul (eC (.int 998)) (eCall F__law_draw (aCons (eVar 0) (aCons (eC (.int 2)) aNil)))))) bNil) bNil) (bSeq (sRet (eOp dAdd (eC (.int 1)) (eCall F__law_draw (aCons (eVar 0) (aCons (eC (.int 3)) aNil))))) bNil)))
noncomputable def F__law_size : Fn := mkFnB (bPlain 1) N__law_size.length b__law_size
def N__law_bent : List Str := ["_law_bag_here", "_law_count_here", "_law_a", "_law_b", "_law_way", "_law_size_here", "_law_end"]
noncomputable def b__law_bent : SS := bSeq (sAsg (eCall F__law_draw (aCons (eVar 0) (aCons (eC (.int 20)) aNil))) (gNm 4)) (bSeq (sIf (tB (eOp dLtA (eVar 4) (eC (.int 8)))) (bSeq (sAsg (eOp dIx (eArgs dLst (aCons (eC (.int 0)) (aCons (eC (.int 1000)) (aCons (eUn dNeg (eC (.int 2))) (aCons (eOp dPow (eC (.int 10)) (eC (.int 20))) (aCons (eC (.bl true)) (aCons (eC .non) (aCons (eC (.str "2")) (aCons (eArgs dTup (aCons (eC (.int 2)) aNil)) aNil))))))))) (eVar 4)) (gNm 5)) (bSeq (sRet (eArgs dTup (aCons (eVar 2) (aCons (eVar 3) (aCons (eVar 5) aNil))))) bNil)) bNil) (bSeq (sIf (tB (eOp dLtA (eVar 4) (eC (.int 14)))) (bSeq (sAsg (eOp dIx (eArgs dLst (aCons (eVar 1) (aCons (eUn dNeg (eC (.int 1))) (aCons (eOp dAdd (eVar 1) (eC (.int 7))) (aCons (eC (.bl true)) (aCons (eC .non) (aCons (eC (.str "0")) aNil))))))) (eOp dSub (eVar 4) (eC (.int 8)))) (gNm 6)) (bSeq (sRet (eIf (tB (eOp (dEqv false) (eCall F__law_draw (aCons (eVar 0) (aCons (eC (.int 2)) aNil))) (eC (.int 0)))) (eArgs dTup (aCons (eVar 6) (aCons (eVar 3) aNil))) (eArgs dTup (aCons (eVar 2) (aCons (eVar 6) (aCons (eOp dMul (eC (.int 1000)) (eCall F__law_draw (aCons (eVar 0) (aCons (eC (.int 2)) aNil)))) aNil)))))) bNil)) bNil) (bSeq (sIf (tB (eOp (dEqv false) (eVar 4) (eC (.int 14)))) (bSeq (sRet (eArgs dTup (aCons (eVar 2) (aCons (eVar 2) (aCons (eOp dMul (eC (.int 1000)) (eCall F__law_draw (aCons (eVar 0) (aCons (eC (.int 2)) aNil)))) aNil))))) bNil) bNil) (bSeq (sRet (eOp dIx (eArgs dLst (aCons (eArgs dLst (aCons (eVar 2) (aCons (eVar 3) aNil))) (aCons (eArgs dTup (aCons (eVar 2) aNil)) (aCons (eArgs dTup (aCons (eVar 2) (aCons (eVar 3) (aCons (eC (.int 2)) (aCons (eC (.int 2)) aNil))))) (aCons (eArgs dTup aNil) (aCons (eC .non) aNil)))))) (eOp dSub (eVar 4) (eC (.int 15))))) bNil))))
noncomputable def F__law_bent : Fn := mkFnB (bPlain 4) N__law_bent.length b__law_bent
def N__law_given : List Str := ["_law_bag_here", "_law_count_here", "_law_style", "_law_turned", "_law_given_here", "_law_seen", "_law_k", "_law_a", "_law_b", "_law_first", "_law_one"]
noncomputable def b__law_given : SS := bSeq (sAsg (eCall F__law_draw (aCons (eVar 0) (aCons (eC (.int 4)) aNil))) (gNm 2)) (bSeq (sAsg (eCall F__law_order (aCons (eVar 0) (aCons (eVar 1) aNil))) (gNm 3)) (bSeq (sAsg (eArgs dLst aNil) (gNm 4)) (bSeq (sAsg (eArgs dLst aNil) (gNm 5)) (bSeq (sFor (wRng1 (aCons (eCall F__law_draw (aCons (eVar 0) (aCons (eC (.int 8)) aNil))) aNil)) (gNm 6) (bSeq (sAsg (eC (.int 0)) (gNm 7)) (bSeq (sAsg (eC (.int 0)) (gNm 8)) (bSeq (sIf (tB (eOp dGt (eVar 1) (eC (.int 1)))) (bSeq (sAsg (eCall F__law_draw (aCons (eVar 0) (aCons (eOp dSub (eVar 1) (eC (.int 1))) aNil))) (gNm 9)) (bSeq (sAsg (eOp dIx (eVar 3) (eVar 9)) (gNm 7)) (bSeq (sAsg (eOp dIx (eVar 3) (eOp dAdd (eOp dAdd (eVar 9) (eC (.int 1))) (eCall F__law_draw (aCons (eVar 0) (aCons (eOp dSub (eOp dSub (eVar 1) (eC (.int 1))) (eVar 9)) aNil))))) (gNm 8)) bNil))) bNil) (bSeq (sIf (tAnd' (tB (eOp (dEqv false) (eVar 2) (eC (.int 0)))) (tB (eOp (dEqv false) (eCall F__law_draw (aCons (eVar 0) (aCons (eC (.int 2)) aNil))) (eC (.int 1))))) (bSeq (sPar 7 8 (aCons (eVar 8) (aCons (eVar 7) aNil))) bNil) bNil) (bSeq (sAsg (eArgs dTup (aCons (eVar 7) (aCons (eVar 8) aNil))) (gNm 10)) (bSeq (sIf (tB (eOp dGt (eCall F__law_draw (aCons (eVar 0) (aCons (eC (.int 3)) aNil))) (eC (.int 0)))) (bSeq (sAsg (eArgs dTup (aCons (eVar 7) (aCons (eVar 8) (aCons (eCall F__law_size (aCons (eVar 0) aNil)) aNil)))) (gNm 10)) bNil) bNil) (bSeq (sIf (tB (eOp (dEqv false) (eCall F__law_draw (aCons (eVar 0) (aCons (eC (.int 12)) aNil))) (eC (.int 0)))) (bSeq (sAsg (eCall F__law_bent (aCons (eVar 0) (aCons (eVar 1) (aCons (eVar 7) (aCons (eVar 8) aNil))))) (gNm 10)) bNil) bNil) (bSeq (sIf (tOr' (tB (eOp dLtA (eVar 2) (eC (.int 2)))) (tB (eOp (dIn true) (eArgs dTup (aCons (eVar 7) (aCons (eVar 8) aNil))) (eVar 5)))) (bSeq (sDrop (eMtL (mLst fAppend) (eVar 4) (aCons (eVar 10) aNil))) (bSeq (sDrop (eMtL (mLst fAppend) (eVar 5) (aCons (eArgs dTup (aCons (eVar 7) (aCons (eVar 8) aNil))) aNil))) bNil)) bNil) bNil))))))))) (bSeq (sRet (eVar 4)) bNil)))))
noncomputable def F__law_given : Fn := mkFnB (bPlain 2) N__law_given.length b__law_given
def N__law_extra : List Str := ["_law_bag_here", "_law_way"]
noncomputable def b__law_extra : SS := bSeq (sAsg (eCall F__law_draw (aCons (eVar 0) (aCons (eC (.int 6)) aNil))) (gNm 1)) (bSeq (sIf (tB (eOp (dEqv false) (eVar 1) (eC (.int 0)))) (bSeq (sRet (eOp dIx (eArgs dLst (aCons (eC (.int 0)) (aCons (eUn dNeg (eC (.int 1))) (aCons (eC (.int 1000)) (aCons (eOp dPow (eC (.int 10)) (eC (.int 20))) (aCons (eC (.bl true)) (aCons (eC .non) (aCons (eC (.str "1")) (aCons (eArgs dTup (aCons (eC (.int 1)) aNil)) aNil))))))))) (eCall F__law_draw (aCons (eVar 0) (aCons (eC (.int 8)) aNil))))) bNil) bNil) (bSeq (sIf (tB (eOp (dEqv false) (eVar 1) (eC (.int 1)))) (bSeq (sRet (eOp dIx (eArgs dLst (aCons (eC (.int 1)) (aCons (eC (.int 998)) (aCons (eC (.int 999)) aNil)))) (eCall F__law_draw (aCons (eVar 0) (aCons (eC (.int 3)) aNil))))) bNil) bNil) (bSeq (sRet (eOp dAdd (eC (.int 1)) (eCall F__law_draw (aCons (eVar 0) (aCons (eC (.int 999)) aNil))))) bNil)))
noncomputable def F__law_extra : Fn := mkFnB (bPlain 1) N__law_extra.length b__law_extra
def N__law_small : List Str := ["_law_bag_here", "_law_count_here", "_law_usual", "_law_given_here", "_law_keyed_here", "_law_extra_here", "_law_turn", "_law_due"]
noncomputable def b__law_small : SS := bSeq (sAsg (eCall F__law_count (aCons (eVar 0) aNil)) (gNm 1)) (bSeq (sAsg (eIf (tB (eCall F__law_number (aCons (eVar 1) (aCons (eC (.int 1)) (aCons (eC (.int 40)) aNil))))) (eVar 1) (eC (.int 3))) (gNm 2)) (bSeq (sAsg (eCall F__law_given (aCons (eVar 0) (aCons (eVar 2) aNil))) (gNm 3)) (bSeq (sAsg (eOp (dEqv false) (eCall F__law_draw (aCons (eVar 0) (aCons (eC (.int 2)) aNil))) (eC (.int 1))) (gNm 4)) (bSeq (sAsg (eC (.int 1)) (gNm 5)) (bSeq (sIf (tB (eVar 4)) (bSeq (sAsg (eCall F__law_extra (aCons (eVar 0) aNil)) (gNm 5)) bNil) bNil) (bSeq (sFor (wRng1 (aCons (eC (.int 12)) aNil)) (gNm 6) (bSeq (sAsg (eCall F__law_fault (aCons (eVar 1) (aCons (eVar 3) (aCons (eVar 5) aNil)))) (gNm 7)) (bSeq (sIf (tNot' (tB (eCall F__law_answered (aCons (eVar 1) (aCons (eVar 3) (aCons (eVar 5) (aCons (eVar 4) (aCons (eVar 7) aNil)))))))) (bSeq (sRet (eC (.bl false))) bNil) bNil) (bSeq (sIf (tB (eOp (dIs false) (eVar 7) (eC .non))) (bSeq (sRet (eC (.bl true))) bNil) bNil) (bSeq (sIf (tB (eOp (dEqv false) (eOp dIx (eVar 7) (eC (.int 0))) (eC (.str "stages")))) (bSeq (sAsg (eVar 2) (gNm 1)) bNil) (bSeq (sIf (tB (eOp (dEqv false) (eOp dIx (eVar 7) (eC (.int 0))) (eC (.str "circle")))) (bSeq (sAsg (eSl (eVar 3) oNone (oSome (eUn dNeg (eC (.int 1))))) (gNm 3)) bNil) (bSeq (sIf (tB (eOp (dIs false) (eOp dIx (eVar 7) (eC (.int 1))) (eC .non))) (bSeq (sAsg (eC (.int 2)) (gNm 5)) bNil) (bSeq (sAsg (eOp dAdd (eSl (eVar 3) oNone (oSome (eOp dIx (eVar 7) (eC (.int 1))))) (eSl (eVar 3) (oSome (eOp dAdd (eOp dIx (eVar 7) (eC (.int 1))) (eC (.int 1)))) oNone)) (gNm 3)) bNil)) bNil)) bNil)) bNil))))) (bSeq (sRet (eC (.bl true))) bNil)))))))
noncomputable def F__law_small : Fn := mkFnB (bPlain 1) N__law_small.length b__law_small
def N_law : List Str := ["_law_script", "_law_made", "_law_k", "_law_bag_here", "_law_way", "_law_good_here"]
noncomputable def b_law : SS := bSeq (sAsg (eMkX 1 2 [(0, 1), (1, 2)] (aCons (eC (.str "circle")) (aCons (eC (.int 4)) aNil))) (gNm 1)) (bSeq (sIf (tNot' (tB (eCall F__law_same_row (aCons (eArgs dTup (aCons (eUn (dXo [1] 0) (eVar 1)) (aCons (eUn (dXo [1, 2] 1) (eVar 1)) aNil))) (aCons (eArgs dTup (aCons (eC (.str "circle")) (aCons (eC (.int 4)) aNil))) aNil))))) (bSeq (sRet (eC (.bl false))) bNil) bNil) (bSeq (sFor (wRng1 (aCons (eArgs (d2 bMax2) (aCons (eC (.int 1)) (aCons (eArgs (d2 bMin2) (aCons (eArgs (d1 bLen) (aCons (eVar 0) aNil)) (aCons (eC (.int 3)) aNil))) aNil))) aNil)) (gNm 2) (bSeq (sAsg (eCall F__law_bag (aCons (eVar 0) (aCons (eVar 2) aNil))) (gNm 3)) (bSeq (sAsg (eCall F__law_draw (aCons (eVar 3) (aCons (eC (.int 8)) aNil))) (gNm 4)) (bSeq (sIf (tB (eOp (dEqv false) (eVar 4) (eC (.int 7)))) (bSeq (sAsg (eCall F__law_large (aCons (eVar 3) aNil)) (gNm 5)) bNil) (bSeq (sIf (tB (eOp (dEqv false) (eVar 4) (eC (.int 6)))) (bSeq (sAsg (eCall F__law_round_trip (aCons (eVar 3) aNil)) (gNm 5)) bNil) (bSeq (sAsg (eCall F__law_small (aCons (eVar 3) aNil)) (gNm 5)) bNil)) bNil)) (bSeq (sIf (tNot' (tB (eVar 5))) (bSeq (sRet (eC (.bl false))) bNil) bNil) bNil))))) (bSeq (sRet (eC (.bl true))) bNil)))
noncomputable def F_law : Fn := mkFnB (bPlain 1) N_law.length b_law
end FI.K00
set_option maxRecDepth 100000
set_option maxHeartbeats 4000000
namespace FI.K00
open PySem L2 PySem.Spec PyProof.Rows FI
def d__law_same : FDf := ⟨atG "_law_same", "_law_same", "_law_same", defArgs s__law_same, defBody s__law_same, defScope s__law_same, none⟩
def d__law_same_row : FDf := ⟨atG "_law_same_row", "_law_same_row", "_law_same_row", defArgs s__law_same_row, defBody s__law_same_row, defScope s__law_same_row, none⟩
def d__law_cell : FDf := ⟨atG "_law_cell", "_law_cell", "_law_cell", defArgs s__law_cell, defBody s__law_cell, defScope s__law_cell, none⟩
def d__law_bag : FDf := ⟨atG "_law_bag", "_law_bag", "_law_bag", defArgs s__law_bag, defBody s__law_bag, defScope s__law_bag, none⟩
def d__law_draw : FDf := ⟨atG "_law_draw", "_law_draw", "_law_draw", defArgs s__law_draw, defBody s__law_draw, defScope s__law_draw, none⟩
def d__law_pairs : FDf := ⟨atG "_law_pairs", "_law_pairs", "_law_pairs", defArgs s__law_pairs, defBody s__law_pairs, defScope s__law_pairs, none⟩
def d_numbers_by_end : FDf := ⟨atG "numbers_by_end", "numbers_by_end", "numbers_by_end", defArgs s_numbers_by_end, defBody s_numbers_by_end, defScope s_numbers_by_end, none⟩
def d_Net_init : FDf := ⟨atM "Net" "__init__", "__init__", "Net.__init__", defArgs s_Net_init, defBody s_Net_init, defScope s_Net_init, none⟩
def d_is_integer : FDf := ⟨atG "is_integer", "is_integer", "is_integer", defArgs s_is_integer, defBody s_is_integer, defScope s_is_integer, none⟩
def d_is_channel : FDf := ⟨atG "is_channel", "is_channel", "is_channel", defArgs s_is_channel, defBody s_is_channel, defScope s_is_channel, none⟩
def d_Net_is_capacity : FDf := ⟨atR "staticmethod" "Net" "is_capacity", "is_capacity", "Net.is_capacity", defArgs s_Net_is_capacity, defBody s_Net_is_capacity, defScope s_Net_is_capacity, none⟩
def d_check_channels : FDf := ⟨atG "check_channels", "check_channels", "check_channels", defArgs s_check_channels, defBody s_check_channels, defScope s_check_channels, none⟩
def d_has_circle : FDf := ⟨atG "has_circle", "has_circle", "has_circle", defArgs s_has_circle, defBody s_has_circle, defScope s_has_circle, none⟩
def d_Pipeline_init : FDf := ⟨atM "Pipeline" "__init__", "__init__", "Pipeline.__init__", defArgs s_Pipeline_init, defBody s_Pipeline_init, defScope s_Pipeline_init, some "Pipeline"⟩
def d__law_keyed : FDf := ⟨atG "_law_keyed", "_law_keyed", "_law_keyed", defArgs s__law_keyed, defBody s__law_keyed, defScope s__law_keyed, none⟩
def d__law_forty : FDf := ⟨atG "_law_forty", "_law_forty", "_law_forty", defArgs s__law_forty, defBody s__law_forty, defScope s__law_forty, none⟩
def d__law_full : FDf := ⟨atG "_law_full", "_law_full", "_law_full", defArgs s__law_full, defBody s__law_full, defScope s__law_full, none⟩
def d__law_over : FDf := ⟨atG "_law_over", "_law_over", "_law_over", defArgs s__law_over, defBody s__law_over, defScope s__law_over, none⟩
def d__law_left_out : FDf := ⟨atG "_law_left_out", "_law_left_out", "_law_left_out", defArgs s__law_left_out, defBody s__law_left_out, defScope s__law_left_out, none⟩
def d__law_same_rows : FDf := ⟨atG "_law_same_rows", "_law_same_rows", "_law_same_rows", defArgs s__law_same_rows, defBody s__law_same_rows, defScope s__law_same_rows, none⟩
def d_Net_slots : FDf := ⟨atR "property" "Net" "slots", "slots", "Net.slots", defArgs s_Net_slots, defBody s_Net_slots, defScope s_Net_slots, none⟩
def d__law_good : FDf := ⟨atG "_law_good", "_law_good", "_law_good", defArgs s__law_good, defBody s__law_good, defScope s__law_good, none⟩
def d__law_answered : FDf := ⟨atG "_law_answered", "_law_answered", "_law_answered", defArgs s__law_answered, defBody s__law_answered, defScope s__law_answered, none⟩
def d__law_number : FDf := ⟨atG "_law_number", "_law_number", "_law_number", defArgs s__law_number, defBody s__law_number, defScope s__law_number, none⟩
def d__law_channel_fault : FDf := ⟨atG "_law_channel_fault", "_law_channel_fault", "_law_channel_fault", defArgs s__law_channel_fault, defBody s__law_channel_fault, defScope s__law_channel_fault, none⟩
def d__law_circle : FDf := ⟨atG "_law_circle", "_law_circle", "_law_circle", defArgs s__law_circle, defBody s__law_circle, defScope s__law_circle, none⟩
def d__law_fault : FDf := ⟨atG "_law_fault", "_law_fault", "_law_fault", defArgs s__law_fault, defBody s__law_fault, defScope s__law_fault, none⟩
def d__law_large : FDf := ⟨atG "_law_large", "_law_large", "_law_large", defArgs s__law_large, defBody s__law_large, defScope s__law_large, none⟩
def d__law_order : FDf := ⟨atG "_law_order", "_law_order", "_law_order", defArgs s__law_order, defBody s__law_order, defScope s__law_order, none⟩
def d__law_round_trip : FDf := ⟨atG "_law_round_trip", "_law_round_trip", "_law_round_trip", defArgs s__law_round_trip, defBody s__law_round_trip, defScope s__law_round_trip, none⟩
def d__law_count : FDf := ⟨atG "_law_count", "_law_count", "_law_count", defArgs s__law_count, defBody s__law_count, defScope s__law_count, none⟩
def d__law_size : FDf := ⟨atG "_law_size", "_law_size", "_law_size", defArgs s__law_size, defBody s__law_size, defScope s__law_size, none⟩
def d__law_bent : FDf := ⟨atG "_law_bent", "_law_bent", "_law_bent", defArgs s__law_bent, defBody s__law_bent, defScope s__law_bent, none⟩
def d__law_given : FDf := ⟨atG "_law_given", "_law_given", "_law_given", defArgs s__law_given, defBody s__law_given, defScope s__law_given, none⟩
def d__law_extra : FDf := ⟨atG "_law_extra", "_law_extra", "_law_extra", defArgs s__law_extra, defBody s__law_extra, defScope s__law_extra, none⟩
def d__law_small : FDf := ⟨atG "_law_small", "_law_small", "_law_small", defArgs s__law_small, defBody s__law_small, defScope s__law_small, none⟩
def d_law : FDf := ⟨atG "law", "law", "law", defArgs s_law, defBody s_law, defScope s_law, none⟩
def d_InvalidNet_init : FDf := ⟨atM "InvalidNet" "__init__", "__init__", "InvalidNet.__init__", defArgs s_InvalidNet_init, defBody s_InvalidNet_init, defScope s_InvalidNet_init, some "InvalidNet"⟩
def fnL0 : List FDf := [d__law_same, d__law_same_row, d__law_cell, d__law_bag, d__law_draw, d__law_pairs, d_numbers_by_end, d_Net_init, d_is_integer, d_is_channel, d_Net_is_capacity, d_check_channels, d_has_circle, d_Pipeline_init, d__law_keyed, d__law_forty, d__law_full, d__law_over, d__law_left_out, d__law_same_rows, d_Net_slots, d__law_good, d__law_answered, d__law_number, d__law_channel_fault, d__law_circle, d__law_fault, d__law_large, d__law_order, d__law_round_trip]
def fnL1 : List FDf := [d__law_count, d__law_size, d__law_bent, d__law_given, d__law_extra, d__law_small, d_law, d_InvalidNet_init]
def fnL : List FDf := fnL0 ++ fnL1
def fsL0 : List (Fr → Bool) := [bFree "tuple", bFree "isinstance", bFree "len", bFree "range", bFree "int", bFree "bool", bFree "str", bFree "min", bFree "max", bFree "sum", bFree "enumerate", bFree "sorted", bCst "Net" "MOST_STAGES" (.int 40), bRead "Net", bGlo "Net", bCst "Net" "MOST_CHANNELS" (.int 120), bCst "Net" "MOST_CAPACITY" (.int 999), bFree "list", bGlo "InvalidNet", bFree "ValueError", bGlo "NotFound", bGlo "InvalidText", bGlo "InvalidState", bGlo "InvalidMove", bGlo "Blocked", bPrp "Pipeline" "slots", bCls "Pipeline", bSame "Pipeline" "Net" "slots", bGlo "_law_same", bGlo "_law_same_row"]
def fsL1 : List (Fr → Bool) := [bGlo "_law_cell", bGlo "_law_bag", bGlo "_law_draw", bGlo "_law_pairs", bGlo "numbers_by_end", bGlo "is_integer", bGlo "is_channel", bGlo "check_channels", bGlo "has_circle", bGlo "_law_keyed", bGlo "_law_forty", bGlo "_law_full", bGlo "_law_over", bGlo "_law_left_out", bGlo "_law_same_rows", bGlo "_law_good", bGlo "_law_answered", bGlo "_law_number", bGlo "_law_channel_fault", bGlo "_law_circle", bGlo "_law_fault", bGlo "_law_large", bGlo "_law_order", bGlo "_law_round_trip", bGlo "_law_count", bGlo "_law_size", bGlo "_law_bent", bGlo "_law_given", bGlo "_law_extra", bGlo "_law_small"]
def fsL2 : List (Fr → Bool) := [bGlo "law", bNoat "Pipeline" "_incoming", bNoat "Pipeline" "_outgoing", bNoat "Pipeline" "channels", bNoat "Pipeline" "stages", bGlo "Pipeline", bMkr "Pipeline", bStm "Net" "is_capacity", bOex "InvalidNet", bSupE "InvalidNet", bIni "InvalidNet", bIsc "InvalidNet", bNoat "InvalidNet" "reason", bNoat "InvalidNet" "position", bIsc "Pipeline", bSupM' "Pipeline" "Pipeline" "__init__" "Net", bThird, bFree "super", bXf "InvalidNet", bXf "InvalidState", bNoat "InvalidState" "position", bExc "InvalidNet", bGlo "WithinCallError", bExm "InvalidNet" "WithinCallError" true, bKit (fun _ => .type "NoneType") (fun _ => .type "bool") false, bKit (fun _ => .type "bool") (fun _ => .type "bool") true, bKit (fun _ => .type "int") (fun _ => .type "bool") false, bKit (fun _ => .type "str") (fun _ => .type "bool") false, bKit (fun _ => .type "tuple") (fun _ => .type "bool") false, bKit (fun _ => .type "list") (fun _ => .type "bool") false]
def fsL3 : List (Fr → Bool) := [bKit (fun _ => .type "NoneType") (fun _ => .type "int") false, bKit (fun _ => .type "bool") (fun _ => .type "int") true, bKit (fun _ => .type "int") (fun _ => .type "int") true, bKit (fun _ => .type "str") (fun _ => .type "int") false, bKit (fun _ => .type "tuple") (fun _ => .type "int") false, bKit (fun _ => .type "list") (fun _ => .type "int") false, bKit (fun _ => .type "NoneType") (fun _ => .type "str") false, bKit (fun _ => .type "bool") (fun _ => .type "str") false, bKit (fun _ => .type "int") (fun _ => .type "str") false, bKit (fun _ => .type "str") (fun _ => .type "str") true, bKit (fun _ => .type "tuple") (fun _ => .type "str") false, bKit (fun _ => .type "list") (fun _ => .type "str") false, bKit (fun _ => .type "NoneType") (fun _ => .type "tuple") false, bKit (fun _ => .type "bool") (fun _ => .type "tuple") false, bKit (fun _ => .type "int") (fun _ => .type "tuple") false, bKit (fun _ => .type "str") (fun _ => .type "tuple") false, bKit (fun _ => .type "tuple") (fun _ => .type "tuple") true, bKit (fun _ => .type "list") (fun _ => .type "tuple") false, bKit (fun K => .ref (He.ga K "InvalidNet")) (fun K => .ref (He.ga K "Blocked")) false, bKit (fun K => .ref (He.ga K "InvalidNet")) (fun K => .ref (He.ga K "InvalidMove")) false, bKit (fun K => .ref (He.ga K "InvalidNet")) (fun K => .ref (He.ga K "InvalidNet")) true, bKit (fun K => .ref (He.ga K "InvalidNet")) (fun K => .ref (He.ga K "InvalidState")) false, bKit (fun K => .ref (He.ga K "InvalidNet")) (fun K => .ref (He.ga K "InvalidText")) false, bKit (fun K => .ref (He.ga K "InvalidNet")) (fun K => .ref (He.ga K "NotFound")) false, bKit (fun K => .ref (He.ga K "InvalidNet")) (fun _ => .type "ValueError") true, bKwd (atM "Pipeline" "__init__") "capacity" (.int 1)]
def fsL : List (Fr → Bool) := fsL0 ++ fsL1 ++ fsL2 ++ fsL3
abbrev R : PySem.W.OpenRow := PySem.W.OpenLaw.row PySem.Challenge.rw_withincall_k00_pipelines_checked
abbrev fileP : Str := PySem.Challenge.pw_withincall_k00_pipelines_checked.main.file
def names0 : List Str := ["__name__", "_wall", "WithinCallError", "InvalidNet", "InvalidState", "InvalidMove", "InvalidText", "NotFound", "Blocked", "is_integer", "check_number", "is_channel", "check_channels", "check_capacities", "has_circle", "numbers_by_end", "Net", "Pipeline", "_law_cell", "_law_bag", "_law_draw", "_law_same", "_law_same_row", "_law_same_rows", "_law_order", "_law_number", "_law_channel_fault", "_law_circle", "_law_fault", "_law_full"]
def names1 : List Str := ["_law_over", "_law_forty", "_law_left_out", "_law_keyed", "_law_good", "_law_answered", "_law_count", "_law_extra", "_law_bent", "_law_size", "_law_given", "_law_small", "_law_pairs", "_law_large", "_law_round_trip"]
def names : List Str := names0 ++ names1
def asL : List Addr := [3, 2, 6, 4, 21, 31, 53, 74, 95, 116, 137, 158, 167, 174, 181, 188, 195, 200, 205, 294, 352, 361, 368, 375, 382, 389, 396, 401, 408, 415, 420, 427, 434, 441, 448, 455, 462, 467, 474, 481, 488, 495, 502, 509, 516, 523, 530, 535, 542, 0, 20, 30, 52, 73, 94, 115, 136, 157, 166, 173, 180, 187, 194, 199, 204, 293, 351, 360, 367, 374, 381, 388, 395, 400, 407, 414, 419, 426, 433, 440, 447, 454, 461, 466, 473, 480, 487, 494, 501, 508, 515, 522, 529, 534, 541, 15, 16, 17, 18, 19, 29, 32, 50, 51, 71, 72, 92, 93, 113, 114, 134, 135, 155, 156, 161, 162, 163, 164, 165, 168, 169, 170, 171, 172, 175, 176, 177, 178, 179, 182, 183, 184, 185, 186, 189, 190, 191, 192, 193, 196, 197, 198, 201, 202, 203, 219, 228, 235, 242, 249, 256, 263, 270, 277, 284, 291, 292, 295, 296, 313, 320, 328, 335, 342, 349, 350, 355, 356, 357, 358, 359, 362, 363, 364, 365, 366, 369, 370, 371, 372, 373, 376, 377, 378, 379, 380, 383, 384, 385, 386, 387, 390, 391, 392, 393, 394, 397, 398, 399, 402, 403, 404, 405, 406, 409, 410, 411, 412, 413, 416, 417, 418, 421, 422, 423, 424, 425, 428, 429, 430, 431, 432, 435, 436, 437, 438, 439, 442, 443, 444, 445, 446, 449, 450, 451, 452, 453, 456, 457, 458, 459, 460, 463, 464, 465, 468, 469, 470, 471, 472, 475, 476, 477, 478, 479, 482, 483, 484, 485, 486, 489, 490, 491, 492, 493, 496, 497, 498, 499, 500, 503, 504, 505, 506, 507, 510, 511, 512, 513, 514, 517, 518, 519, 520, 521, 524, 525, 526, 527, 528, 531, 532, 533, 536, 537, 538, 539, 540, 49, 38, 70, 59, 91, 80, 112, 101, 133, 122, 154, 143, 218, 226, 227, 234, 241, 248, 255, 262, 269, 276, 283, 290, 312, 307, 302, 318, 319, 327, 334, 341, 348, 44, 45, 46, 47, 48, 65, 66, 67, 68, 69, 86, 87, 88, 89, 90, 107, 108, 109, 110, 111, 128, 129, 130, 131, 132, 149, 150, 151, 152, 153, 213, 214, 215, 216, 217, 225, 229, 233, 236, 237, 238, 239, 240, 243, 244, 245, 246, 247, 250, 251, 252, 253, 254, 257, 258, 259, 260, 261, 264, 265, 266, 267, 268, 271, 272, 273, 274, 275, 278, 279, 280, 281, 282, 285, 286, 287, 288, 289, 309, 310, 311, 317, 321, 322, 323, 324, 325, 326, 329, 330, 331, 332, 333, 336, 337, 338, 339, 340, 343, 344, 345, 346, 347, 220, 221, 222, 223, 224, 230, 231, 232, 314, 315, 316]
abbrev hk : PySem.W.Hook := hookL fileP asL fsL fnL
noncomputable def ob (s : PySem.W.SharedT) : AlM := obsL fileP asL fsL fnL (HandSHeadRun.getT s)
theorem ob_eq (s : PySem.W.SharedT) : ob s = hk.obs s.abs := obsL_eq (HandSHeadRun.getT_eq s)
end FI.K00
set_option maxRecDepth 100000
set_option maxHeartbeats 4000000
namespace FI.K00
open PySem L2 PySem.Spec PyProof.Rows FI
theorem fld_inj : ∀ a, a < 50 → ∀ b, b < 50 → fldL.getD a "" = fldL.getD b "" → a = b := by decide +kernel
section
variable (P0 : Program) (w0 : World) (K : Fr) (mg : Str → Option Value) (base : Heap)
abbrev gm : Gm := { P := P0, w := w0, K := K, mg := mg, base := base, cls := fun n => He.ga K (clsL.getD n ""), fld := fun n => fldL.getD n "", nf := 50, inj := fun a b ha hb => fld_inj a ha b hb }
structure Hs : Prop where
  file : P0.main.file = fileP
  scp : (P0.main.scope.names.lookup ("super" : Str)).isSome = false
  hp : ∃ h : Heap, K.In h ∧ h.Ns mainGlobals mg
  says : SaysM fileP fsL fnL K
end
section
variable {P0 : Program} {w0 : World} {K : Fr} {mg : Str → Option Value} {base : Heap} (h : Hs P0 K mg)
include h
theorem Hs.fr_tuple : mg "tuple" = none := let ⟨_, X, G⟩ := h.hp; bFree_ok X G (h.says.fact 0 (f := bFree "tuple"))
theorem Hs.fr_isinstance : mg "isinstance" = none := let ⟨_, X, G⟩ := h.hp; bFree_ok X G (h.says.fact 1 (f := bFree "isinstance"))
theorem Hs.fr_len : mg "len" = none := let ⟨_, X, G⟩ := h.hp; bFree_ok X G (h.says.fact 2 (f := bFree "len"))
theorem Hs.fr_range : mg "range" = none := let ⟨_, X, G⟩ := h.hp; bFree_ok X G (h.says.fact 3 (f := bFree "range"))
theorem Hs.fr_int : mg "int" = none := let ⟨_, X, G⟩ := h.hp; bFree_ok X G (h.says.fact 4 (f := bFree "int"))
theorem Hs.fr_bool : mg "bool" = none := let ⟨_, X, G⟩ := h.hp; bFree_ok X G (h.says.fact 5 (f := bFree "bool"))
theorem Hs.fr_str : mg "str" = none := let ⟨_, X, G⟩ := h.hp; bFree_ok X G (h.says.fact 6 (f := bFree "str"))
theorem Hs.fr_min : mg "min" = none := let ⟨_, X, G⟩ := h.hp; bFree_ok X G (h.says.fact 7 (f := bFree "min"))
theorem Hs.fr_max : mg "max" = none := let ⟨_, X, G⟩ := h.hp; bFree_ok X G (h.says.fact 8 (f := bFree "max"))
theorem Hs.fr_sum : mg "sum" = none := let ⟨_, X, G⟩ := h.hp; bFree_ok X G (h.says.fact 9 (f := bFree "sum"))
theorem Hs.fr_enumerate : mg "enumerate" = none := let ⟨_, X, G⟩ := h.hp; bFree_ok X G (h.says.fact 10 (f := bFree "enumerate"))
theorem Hs.fr_sorted : mg "sorted" = none := let ⟨_, X, G⟩ := h.hp; bFree_ok X G (h.says.fact 11 (f := bFree "sorted"))
theorem Hs.cs_Net_MOST_STAGES : (bCst "Net" "MOST_STAGES" (.int 40)) K = true := h.says.fact 12
theorem Hs.rd_Net : (bRead "Net") K = true := h.says.fact 13
theorem Hs.gl_Net : mg "Net" = some (.ref (He.ga K "Net")) := let ⟨_, X, G⟩ := h.hp; bGlo_ok X G (h.says.fact 14 (f := bGlo "Net"))
theorem Hs.cs_Net_MOST_CHANNELS : (bCst "Net" "MOST_CHANNELS" (.int 120)) K = true := h.says.fact 15
theorem Hs.cs_Net_MOST_CAPACITY : (bCst "Net" "MOST_CAPACITY" (.int 999)) K = true := h.says.fact 16
theorem Hs.fr_list : mg "list" = none := let ⟨_, X, G⟩ := h.hp; bFree_ok X G (h.says.fact 17 (f := bFree "list"))
theorem Hs.gl_InvalidNet : mg "InvalidNet" = some (.ref (He.ga K "InvalidNet")) := let ⟨_, X, G⟩ := h.hp; bGlo_ok X G (h.says.fact 18 (f := bGlo "InvalidNet"))
theorem Hs.fr_ValueError : mg "ValueError" = none := let ⟨_, X, G⟩ := h.hp; bFree_ok X G (h.says.fact 19 (f := bFree "ValueError"))
theorem Hs.gl_NotFound : mg "NotFound" = some (.ref (He.ga K "NotFound")) := let ⟨_, X, G⟩ := h.hp; bGlo_ok X G (h.says.fact 20 (f := bGlo "NotFound"))
theorem Hs.gl_InvalidText : mg "InvalidText" = some (.ref (He.ga K "InvalidText")) := let ⟨_, X, G⟩ := h.hp; bGlo_ok X G (h.says.fact 21 (f := bGlo "InvalidText"))
theorem Hs.gl_InvalidState : mg "InvalidState" = some (.ref (He.ga K "InvalidState")) := let ⟨_, X, G⟩ := h.hp; bGlo_ok X G (h.says.fact 22 (f := bGlo "InvalidState"))
theorem Hs.gl_InvalidMove : mg "InvalidMove" = some (.ref (He.ga K "InvalidMove")) := let ⟨_, X, G⟩ := h.hp; bGlo_ok X G (h.says.fact 23 (f := bGlo "InvalidMove"))
theorem Hs.gl_Blocked : mg "Blocked" = some (.ref (He.ga K "Blocked")) := let ⟨_, X, G⟩ := h.hp; bGlo_ok X G (h.says.fact 24 (f := bGlo "Blocked"))
theorem Hs.pr_Pipeline_slots : (bPrp "Pipeline" "slots") K = true := h.says.fact 25
theorem Hs.cl_Pipeline : (bCls "Pipeline") K = true := h.says.fact 26
theorem Hs.sa_Pipeline_slots : (bSame "Pipeline" "Net" "slots") K = true := h.says.fact 27
theorem Hs.gl__law_same : mg "_law_same" = some (.ref (He.ga K "_law_same")) := let ⟨_, X, G⟩ := h.hp; bGlo_ok X G (h.says.fact 28 (f := bGlo "_law_same"))
theorem Hs.gl__law_same_row : mg "_law_same_row" = some (.ref (He.ga K "_law_same_row")) := let ⟨_, X, G⟩ := h.hp; bGlo_ok X G (h.says.fact 29 (f := bGlo "_law_same_row"))
theorem Hs.gl__law_cell : mg "_law_cell" = some (.ref (He.ga K "_law_cell")) := let ⟨_, X, G⟩ := h.hp; bGlo_ok X G (h.says.fact 30 (f := bGlo "_law_cell"))
theorem Hs.gl__law_bag : mg "_law_bag" = some (.ref (He.ga K "_law_bag")) := let ⟨_, X, G⟩ := h.hp; bGlo_ok X G (h.says.fact 31 (f := bGlo "_law_bag"))
theorem Hs.gl__law_draw : mg "_law_draw" = some (.ref (He.ga K "_law_draw")) := let ⟨_, X, G⟩ := h.hp; bGlo_ok X G (h.says.fact 32 (f := bGlo "_law_draw"))
theorem Hs.gl__law_pairs : mg "_law_pairs" = some (.ref (He.ga K "_law_pairs")) := let ⟨_, X, G⟩ := h.hp; bGlo_ok X G (h.says.fact 33 (f := bGlo "_law_pairs"))
theorem Hs.gl_numbers_by_end : mg "numbers_by_end" = some (.ref (He.ga K "numbers_by_end")) := let ⟨_, X, G⟩ := h.hp; bGlo_ok X G (h.says.fact 34 (f := bGlo "numbers_by_end"))
theorem Hs.gl_is_integer : mg "is_integer" = some (.ref (He.ga K "is_integer")) := let ⟨_, X, G⟩ := h.hp; bGlo_ok X G (h.says.fact 35 (f := bGlo "is_integer"))
theorem Hs.gl_is_channel : mg "is_channel" = some (.ref (He.ga K "is_channel")) := let ⟨_, X, G⟩ := h.hp; bGlo_ok X G (h.says.fact 36 (f := bGlo "is_channel"))
theorem Hs.gl_check_channels : mg "check_channels" = some (.ref (He.ga K "check_channels")) := let ⟨_, X, G⟩ := h.hp; bGlo_ok X G (h.says.fact 37 (f := bGlo "check_channels"))
theorem Hs.gl_has_circle : mg "has_circle" = some (.ref (He.ga K "has_circle")) := let ⟨_, X, G⟩ := h.hp; bGlo_ok X G (h.says.fact 38 (f := bGlo "has_circle"))
theorem Hs.gl__law_keyed : mg "_law_keyed" = some (.ref (He.ga K "_law_keyed")) := let ⟨_, X, G⟩ := h.hp; bGlo_ok X G (h.says.fact 39 (f := bGlo "_law_keyed"))
theorem Hs.gl__law_forty : mg "_law_forty" = some (.ref (He.ga K "_law_forty")) := let ⟨_, X, G⟩ := h.hp; bGlo_ok X G (h.says.fact 40 (f := bGlo "_law_forty"))
theorem Hs.gl__law_full : mg "_law_full" = some (.ref (He.ga K "_law_full")) := let ⟨_, X, G⟩ := h.hp; bGlo_ok X G (h.says.fact 41 (f := bGlo "_law_full"))
theorem Hs.gl__law_over : mg "_law_over" = some (.ref (He.ga K "_law_over")) := let ⟨_, X, G⟩ := h.hp; bGlo_ok X G (h.says.fact 42 (f := bGlo "_law_over"))
theorem Hs.gl__law_left_out : mg "_law_left_out" = some (.ref (He.ga K "_law_left_out")) := let ⟨_, X, G⟩ := h.hp; bGlo_ok X G (h.says.fact 43 (f := bGlo "_law_left_out"))
theorem Hs.gl__law_same_rows : mg "_law_same_rows" = some (.ref (He.ga K "_law_same_rows")) := let ⟨_, X, G⟩ := h.hp; bGlo_ok X G (h.says.fact 44 (f := bGlo "_law_same_rows"))
theorem Hs.gl__law_good : mg "_law_good" = some (.ref (He.ga K "_law_good")) := let ⟨_, X, G⟩ := h.hp; bGlo_ok X G (h.says.fact 45 (f := bGlo "_law_good"))
theorem Hs.gl__law_answered : mg "_law_answered" = some (.ref (He.ga K "_law_answered")) := let ⟨_, X, G⟩ := h.hp; bGlo_ok X G (h.says.fact 46 (f := bGlo "_law_answered"))
theorem Hs.gl__law_number : mg "_law_number" = some (.ref (He.ga K "_law_number")) := let ⟨_, X, G⟩ := h.hp; bGlo_ok X G (h.says.fact 47 (f := bGlo "_law_number"))
theorem Hs.gl__law_channel_fault : mg "_law_channel_fault" = some (.ref (He.ga K "_law_channel_fault")) := let ⟨_, X, G⟩ := h.hp; bGlo_ok X G (h.says.fact 48 (f := bGlo "_law_channel_fault"))
theorem Hs.gl__law_circle : mg "_law_circle" = some (.ref (He.ga K "_law_circle")) := let ⟨_, X, G⟩ := h.hp; bGlo_ok X G (h.says.fact 49 (f := bGlo "_law_circle"))
theorem Hs.gl__law_fault : mg "_law_fault" = some (.ref (He.ga K "_law_fault")) := let ⟨_, X, G⟩ := h.hp; bGlo_ok X G (h.says.fact 50 (f := bGlo "_law_fault"))
theorem Hs.gl__law_large : mg "_law_large" = some (.ref (He.ga K "_law_large")) := let ⟨_, X, G⟩ := h.hp; bGlo_ok X G (h.says.fact 51 (f := bGlo "_law_large"))
theorem Hs.gl__law_order : mg "_law_order" = some (.ref (He.ga K "_law_order")) := let ⟨_, X, G⟩ := h.hp; bGlo_ok X G (h.says.fact 52 (f := bGlo "_law_order"))
theorem Hs.gl__law_round_trip : mg "_law_round_trip" = some (.ref (He.ga K "_law_round_trip")) := let ⟨_, X, G⟩ := h.hp; bGlo_ok X G (h.says.fact 53 (f := bGlo "_law_round_trip"))
theorem Hs.gl__law_count : mg "_law_count" = some (.ref (He.ga K "_law_count")) := let ⟨_, X, G⟩ := h.hp; bGlo_ok X G (h.says.fact 54 (f := bGlo "_law_count"))
theorem Hs.gl__law_size : mg "_law_size" = some (.ref (He.ga K "_law_size")) := let ⟨_, X, G⟩ := h.hp; bGlo_ok X G (h.says.fact 55 (f := bGlo "_law_size"))
theorem Hs.gl__law_bent : mg "_law_bent" = some (.ref (He.ga K "_law_bent")) := let ⟨_, X, G⟩ := h.hp; bGlo_ok X G (h.says.fact 56 (f := bGlo "_law_bent"))
theorem Hs.gl__law_given : mg "_law_given" = some (.ref (He.ga K "_law_given")) := let ⟨_, X, G⟩ := h.hp; bGlo_ok X G (h.says.fact 57 (f := bGlo "_law_given"))
theorem Hs.gl__law_extra : mg "_law_extra" = some (.ref (He.ga K "_law_extra")) := let ⟨_, X, G⟩ := h.hp; bGlo_ok X G (h.says.fact 58 (f := bGlo "_law_extra"))
theorem Hs.gl__law_small : mg "_law_small" = some (.ref (He.ga K "_law_small")) := let ⟨_, X, G⟩ := h.hp; bGlo_ok X G (h.says.fact 59 (f := bGlo "_law_small"))
theorem Hs.gl_law : mg "law" = some (.ref (He.ga K "law")) := let ⟨_, X, G⟩ := h.hp; bGlo_ok X G (h.says.fact 60 (f := bGlo "law"))
theorem Hs.na_Pipeline__incoming : (bNoat "Pipeline" "_incoming") K = true := h.says.fact 61
theorem Hs.na_Pipeline__outgoing : (bNoat "Pipeline" "_outgoing") K = true := h.says.fact 62
theorem Hs.na_Pipeline_channels : (bNoat "Pipeline" "channels") K = true := h.says.fact 63
theorem Hs.na_Pipeline_stages : (bNoat "Pipeline" "stages") K = true := h.says.fact 64
theorem Hs.gl_Pipeline : mg "Pipeline" = some (.ref (He.ga K "Pipeline")) := let ⟨_, X, G⟩ := h.hp; bGlo_ok X G (h.says.fact 65 (f := bGlo "Pipeline"))
theorem Hs.mk_Pipeline : (bMkr "Pipeline") K = true := h.says.fact 66
theorem Hs.st_Net_is_capacity : (bStm "Net" "is_capacity") K = true := h.says.fact 67
theorem Hs.ox_InvalidNet : (bOex "InvalidNet") K = true := h.says.fact 68
theorem Hs.se_InvalidNet : (bSupE "InvalidNet") K = true := h.says.fact 69
theorem Hs.in_InvalidNet : (bIni "InvalidNet") K = true := h.says.fact 70
theorem Hs.ic_InvalidNet : (bIsc "InvalidNet") K = true := h.says.fact 71
theorem Hs.nx_InvalidNet_reason : (bNoat "InvalidNet" "reason") K = true := h.says.fact 72
theorem Hs.nx_InvalidNet_position : (bNoat "InvalidNet" "position") K = true := h.says.fact 73
theorem Hs.ic_Pipeline : (bIsc "Pipeline") K = true := h.says.fact 74
theorem Hs.sm_Pipeline_Pipeline_init : (bSupM' "Pipeline" "Pipeline" "__init__" "Net") K = true := h.says.fact 75
theorem Hs.third : (bThird) K = true := h.says.fact 76
theorem Hs.fr_super : mg "super" = none := let ⟨_, X, G⟩ := h.hp; bFree_ok X G (h.says.fact 77 (f := bFree "super"))
theorem Hs.xf_InvalidNet : (bXf "InvalidNet") K = true := h.says.fact 78
theorem Hs.xf_InvalidState : (bXf "InvalidState") K = true := h.says.fact 79
theorem Hs.nx_InvalidState_position : (bNoat "InvalidState" "position") K = true := h.says.fact 80
theorem Hs.ex_InvalidNet : (bExc "InvalidNet") K = true := h.says.fact 81
theorem Hs.gl_WithinCallError : mg "WithinCallError" = some (.ref (He.ga K "WithinCallError")) := let ⟨_, X, G⟩ := h.hp; bGlo_ok X G (h.says.fact 82 (f := bGlo "WithinCallError"))
theorem Hs.ec_InvalidNet_WithinCallError : (bExm "InvalidNet" "WithinCallError" true) K = true := h.says.fact 83
theorem Hs.ki_NoneType_bool : (bKit (fun _ => .type "NoneType") (fun _ => .type "bool") false) K = true := h.says.fact 84
theorem Hs.ki_bool_bool : (bKit (fun _ => .type "bool") (fun _ => .type "bool") true) K = true := h.says.fact 85
theorem Hs.ki_int_bool : (bKit (fun _ => .type "int") (fun _ => .type "bool") false) K = true := h.says.fact 86
theorem Hs.ki_str_bool : (bKit (fun _ => .type "str") (fun _ => .type "bool") false) K = true := h.says.fact 87
theorem Hs.ki_tuple_bool : (bKit (fun _ => .type "tuple") (fun _ => .type "bool") false) K = true := h.says.fact 88
theorem Hs.ki_list_bool : (bKit (fun _ => .type "list") (fun _ => .type "bool") false) K = true := h.says.fact 89
theorem Hs.ki_NoneType_int : (bKit (fun _ => .type "NoneType") (fun _ => .type "int") false) K = true := h.says.fact 90
theorem Hs.ki_bool_int : (bKit (fun _ => .type "bool") (fun _ => .type "int") true) K = true := h.says.fact 91
theorem Hs.ki_int_int : (bKit (fun _ => .type "int") (fun _ => .type "int") true) K = true := h.says.fact 92
theorem Hs.ki_str_int : (bKit (fun _ => .type "str") (fun _ => .type "int") false) K = true := h.says.fact 93
theorem Hs.ki_tuple_int : (bKit (fun _ => .type "tuple") (fun _ => .type "int") false) K = true := h.says.fact 94
theorem Hs.ki_list_int : (bKit (fun _ => .type "list") (fun _ => .type "int") false) K = true := h.says.fact 95
theorem Hs.ki_NoneType_str : (bKit (fun _ => .type "NoneType") (fun _ => .type "str") false) K = true := h.says.fact 96
theorem Hs.ki_bool_str : (bKit (fun _ => .type "bool") (fun _ => .type "str") false) K = true := h.says.fact 97
theorem Hs.ki_int_str : (bKit (fun _ => .type "int") (fun _ => .type "str") false) K = true := h.says.fact 98
theorem Hs.ki_str_str : (bKit (fun _ => .type "str") (fun _ => .type "str") true) K = true := h.says.fact 99
theorem Hs.ki_tuple_str : (bKit (fun _ => .type "tuple") (fun _ => .type "str") false) K = true := h.says.fact 100
theorem Hs.ki_list_str : (bKit (fun _ => .type "list") (fun _ => .type "str") false) K = true := h.says.fact 101
theorem Hs.ki_NoneType_tuple : (bKit (fun _ => .type "NoneType") (fun _ => .type "tuple") false) K = true := h.says.fact 102
theorem Hs.ki_bool_tuple : (bKit (fun _ => .type "bool") (fun _ => .type "tuple") false) K = true := h.says.fact 103
theorem Hs.ki_int_tuple : (bKit (fun _ => .type "int") (fun _ => .type "tuple") false) K = true := h.says.fact 104
theorem Hs.ki_str_tuple : (bKit (fun _ => .type "str") (fun _ => .type "tuple") false) K = true := h.says.fact 105
theorem Hs.ki_tuple_tuple : (bKit (fun _ => .type "tuple") (fun _ => .type "tuple") true) K = true := h.says.fact 106
theorem Hs.ki_list_tuple : (bKit (fun _ => .type "list") (fun _ => .type "tuple") false) K = true := h.says.fact 107
theorem Hs.kx_InvalidNet_Blocked : (bKit (fun K => .ref (He.ga K "InvalidNet")) (fun K => .ref (He.ga K "Blocked")) false) K = true := h.says.fact 108
theorem Hs.kx_InvalidNet_InvalidMove : (bKit (fun K => .ref (He.ga K "InvalidNet")) (fun K => .ref (He.ga K "InvalidMove")) false) K = true := h.says.fact 109
theorem Hs.kx_InvalidNet_InvalidNet : (bKit (fun K => .ref (He.ga K "InvalidNet")) (fun K => .ref (He.ga K "InvalidNet")) true) K = true := h.says.fact 110
theorem Hs.kx_InvalidNet_InvalidState : (bKit (fun K => .ref (He.ga K "InvalidNet")) (fun K => .ref (He.ga K "InvalidState")) false) K = true := h.says.fact 111
theorem Hs.kx_InvalidNet_InvalidText : (bKit (fun K => .ref (He.ga K "InvalidNet")) (fun K => .ref (He.ga K "InvalidText")) false) K = true := h.says.fact 112
theorem Hs.kx_InvalidNet_NotFound : (bKit (fun K => .ref (He.ga K "InvalidNet")) (fun K => .ref (He.ga K "NotFound")) false) K = true := h.says.fact 113
theorem Hs.kx_InvalidNet_ValueError : (bKit (fun K => .ref (He.ga K "InvalidNet")) (fun _ => .type "ValueError") true) K = true := h.says.fact 114
theorem Hs.kw_Pipeline_init : (bKwd (atM "Pipeline" "__init__") "capacity" (.int 1)) K = true := h.says.fact 115
theorem Hs.fl__incoming : FldOk (gm P0 w0 K mg base) cIns 8 "_incoming" := ⟨by show (8 : Nat) < 50; decide, rfl, fun c hc => by
  simp only [cIns, List.mem_cons, List.not_mem_nil, or_false] at hc
  rcases hc with rfl
  · exact ⟨He.cls_ok h.cl_Pipeline, He.eqO_ok h.na_Pipeline__incoming⟩⟩
theorem Hs.fl__outgoing : FldOk (gm P0 w0 K mg base) cIns 9 "_outgoing" := ⟨by show (9 : Nat) < 50; decide, rfl, fun c hc => by
  simp only [cIns, List.mem_cons, List.not_mem_nil, or_false] at hc
  rcases hc with rfl
  · exact ⟨He.cls_ok h.cl_Pipeline, He.eqO_ok h.na_Pipeline__outgoing⟩⟩
theorem Hs.fl_channels : FldOk (gm P0 w0 K mg base) cIns 5 "channels" := ⟨by show (5 : Nat) < 50; decide, rfl, fun c hc => by
  simp only [cIns, List.mem_cons, List.not_mem_nil, or_false] at hc
  rcases hc with rfl
  · exact ⟨He.cls_ok h.cl_Pipeline, He.eqO_ok h.na_Pipeline_channels⟩⟩
theorem Hs.fl_stages : FldOk (gm P0 w0 K mg base) cIns 7 "stages" := ⟨by show (7 : Nat) < 50; decide, rfl, fun c hc => by
  simp only [cIns, List.mem_cons, List.not_mem_nil, or_false] at hc
  rcases hc with rfl
  · exact ⟨He.cls_ok h.cl_Pipeline, He.eqO_ok h.na_Pipeline_stages⟩⟩
theorem Hs.kit : KitOk (gm P0 w0 K mg base) kt := ⟨by
    intro e he
    simp only [kt, List.mem_cons, List.not_mem_nil, or_false] at he
    rcases he with rfl | rfl | rfl | rfl | rfl | rfl | rfl | rfl | rfl | rfl | rfl | rfl | rfl | rfl | rfl | rfl | rfl | rfl | rfl | rfl | rfl | rfl | rfl | rfl
    · exact ⟨.type "bool", rfl, of_decide_eq_true h.ki_NoneType_bool⟩
    · exact ⟨.type "bool", rfl, of_decide_eq_true h.ki_bool_bool⟩
    · exact ⟨.type "bool", rfl, of_decide_eq_true h.ki_int_bool⟩
    · exact ⟨.type "bool", rfl, of_decide_eq_true h.ki_str_bool⟩
    · exact ⟨.type "bool", rfl, of_decide_eq_true h.ki_tuple_bool⟩
    · exact ⟨.type "bool", rfl, of_decide_eq_true h.ki_list_bool⟩
    · exact ⟨.type "int", rfl, of_decide_eq_true h.ki_NoneType_int⟩
    · exact ⟨.type "int", rfl, of_decide_eq_true h.ki_bool_int⟩
    · exact ⟨.type "int", rfl, of_decide_eq_true h.ki_int_int⟩
    · exact ⟨.type "int", rfl, of_decide_eq_true h.ki_str_int⟩
    · exact ⟨.type "int", rfl, of_decide_eq_true h.ki_tuple_int⟩
    · exact ⟨.type "int", rfl, of_decide_eq_true h.ki_list_int⟩
    · exact ⟨.type "str", rfl, of_decide_eq_true h.ki_NoneType_str⟩
    · exact ⟨.type "str", rfl, of_decide_eq_true h.ki_bool_str⟩
    · exact ⟨.type "str", rfl, of_decide_eq_true h.ki_int_str⟩
    · exact ⟨.type "str", rfl, of_decide_eq_true h.ki_str_str⟩
    · exact ⟨.type "str", rfl, of_decide_eq_true h.ki_tuple_str⟩
    · exact ⟨.type "str", rfl, of_decide_eq_true h.ki_list_str⟩
    · exact ⟨.type "tuple", rfl, of_decide_eq_true h.ki_NoneType_tuple⟩
    · exact ⟨.type "tuple", rfl, of_decide_eq_true h.ki_bool_tuple⟩
    · exact ⟨.type "tuple", rfl, of_decide_eq_true h.ki_int_tuple⟩
    · exact ⟨.type "tuple", rfl, of_decide_eq_true h.ki_str_tuple⟩
    · exact ⟨.type "tuple", rfl, of_decide_eq_true h.ki_tuple_tuple⟩
    · exact ⟨.type "tuple", rfl, of_decide_eq_true h.ki_list_tuple⟩
  , by
    intro e he c hc
    simp only [kt, List.mem_cons, List.not_mem_nil, or_false] at he
    rcases he with rfl | rfl | rfl | rfl | rfl | rfl | rfl | rfl | rfl | rfl | rfl | rfl | rfl | rfl | rfl | rfl | rfl | rfl | rfl | rfl | rfl | rfl | rfl | rfl
    · cases hc
    · cases hc
    · cases hc
    · cases hc
    · cases hc
    · cases hc
    · cases hc
    · cases hc
    · cases hc
    · cases hc
    · cases hc
    · cases hc
    · cases hc
    · cases hc
    · cases hc
    · cases hc
    · cases hc
    · cases hc
    · cases hc
    · cases hc
    · cases hc
    · cases hc
    · cases hc
    · cases hc
  ⟩
theorem Hs.xkit {q : Hx} : XKitOk ((gm P0 w0 K mg base).han q) xkt := ⟨by
    intro e he
    simp only [xkt, List.mem_cons, List.not_mem_nil, or_false] at he
    rcases he with rfl | rfl | rfl | rfl | rfl | rfl | rfl
    · exact ⟨.ref (He.ga K "Blocked"), h.gl_Blocked, of_decide_eq_true h.kx_InvalidNet_Blocked⟩
    · exact ⟨.ref (He.ga K "InvalidMove"), h.gl_InvalidMove, of_decide_eq_true h.kx_InvalidNet_InvalidMove⟩
    · exact ⟨.ref (He.ga K "InvalidNet"), h.gl_InvalidNet, of_decide_eq_true h.kx_InvalidNet_InvalidNet⟩
    · exact ⟨.ref (He.ga K "InvalidState"), h.gl_InvalidState, of_decide_eq_true h.kx_InvalidNet_InvalidState⟩
    · exact ⟨.ref (He.ga K "InvalidText"), h.gl_InvalidText, of_decide_eq_true h.kx_InvalidNet_InvalidText⟩
    · exact ⟨.ref (He.ga K "NotFound"), h.gl_NotFound, of_decide_eq_true h.kx_InvalidNet_NotFound⟩
    · exact ⟨.type "ValueError", rfl, of_decide_eq_true h.kx_InvalidNet_ValueError⟩
  , by
    intro e he
    simp only [xkt, List.mem_cons, List.not_mem_nil, or_false] at he
    rcases he with rfl | rfl | rfl | rfl | rfl | rfl | rfl
    · exact bExc_ok h.ex_InvalidNet
    · exact bExc_ok h.ex_InvalidNet
    · exact bExc_ok h.ex_InvalidNet
    · exact bExc_ok h.ex_InvalidNet
    · exact bExc_ok h.ex_InvalidNet
    · exact bExc_ok h.ex_InvalidNet
    · exact bExc_ok h.ex_InvalidNet
  ⟩
theorem Hs.xf_position {q : Hx} : XFldOk ((gm P0 w0 K mg base).han q) [1, 2] 1 "position" := ⟨by show (1 : Nat) < 50; decide, rfl, fun c hc => by
  simp only [List.mem_cons, List.not_mem_nil, or_false] at hc
  rcases hc with rfl | rfl
  · exact ⟨xfB_ok h.xf_InvalidNet, He.eqO_ok h.nx_InvalidNet_position⟩
  · exact ⟨xfB_ok h.xf_InvalidState, He.eqO_ok h.nx_InvalidState_position⟩⟩
theorem Hs.xf_reason {q : Hx} : XFldOk ((gm P0 w0 K mg base).han q) [1] 0 "reason" := ⟨by show (0 : Nat) < 50; decide, rfl, fun c hc => by
  simp only [List.mem_cons, List.not_mem_nil, or_false] at hc
  rcases hc with rfl
  · exact ⟨xfB_ok h.xf_InvalidNet, He.eqO_ok h.nx_InvalidNet_reason⟩⟩
theorem Hs.ca_WithinCallError : CatchOk (gm P0 w0 K mg base) "WithinCallError" ct_WithinCallError := ⟨⟨_, .inl h.gl_WithinCallError, fun c b hc => by
  have hm := lookup_mem hc
  simp only [ct_WithinCallError, List.mem_cons, List.not_mem_nil, or_false, Prod.mk.injEq] at hm
  rcases hm with ⟨rfl, rfl⟩
  · exact of_decide_eq_true h.ec_InvalidNet_WithinCallError⟩⟩
end
end FI.K00
set_option maxRecDepth 100000
set_option maxHeartbeats 4000000
namespace FI.K00
open PySem L2 PySem.Spec PyProof.Rows FI
section
variable {P0 : Program} {w0 : World} {K : Fr} {mg : Str → Option Value} {base : Heap} (h : Hs P0 K mg)
include h
theorem x_InvalidNet : ExcOk (gm P0 w0 K mg base) 1 "InvalidNet" 1 2 [(0, 1), (1, 2)] := by
  obtain ⟨oc, od, osl, kV, doc, pm, an, cda, ct, cc, lk, hcd, hcell, hfile⟩ := h.says.sup 37 d_InvalidNet_init "InvalidNet"
  obtain ⟨hi1, hi2⟩ := bIni_ok h.in_InvalidNet
  have T := bOex_ok h.ox_InvalidNet
  have SF : SupF P0 K mg (He.ma K (He.ga K "InvalidNet") "__init__") cda cc (He.ga K "InvalidNet") "self" := ⟨fun l => by have z := lk.symm.trans l; cases z; exact ⟨_, rfl, rfl⟩, by rw [h.file]; exact hfile, hcell, bIsc_ok h.ic_InvalidNet, h.scp, h.fr_super, He.eqO_ok h.third⟩
  refine ⟨T, h.gl_InvalidNet, ⟨_, ?fd, ["self", "reason", "position"], ["self", "reason", "position"], hi1, hi2, ?b, rfl, by decide, ?f⟩, ?l⟩
  case l => show ∀ p ∈ ([(0, 1), (1, 2)] : List (Nat × Nat)), p.1 < 50 ∧ 1 ≤ p.2 ∧ p.2 ≤ 2
            decide
  case f => exact exc_fn (g := (gm P0 w0 K mg base)) (k := 0) (N := ["self", "reason", "position"]) (ps := ["self", "reason", "position"]) (fl := [("reason", 1), ("position", 2)]) (txt := "the net is not valid") lk hcd ⟨rfl, rfl, rfl, by decide +kernel, rfl, by decide +kernel, by decide +kernel, rfl, by decide +kernel⟩ T (bSupE_ok h.se_InvalidNet) SF (fun X i => pa_cons pe_str pa_nil) (fun X i => pss_ost_cons (ps_ost (pvx i 0) (pvx i 1)) (pss_ost_cons (ps_ost (pvx i 0) (pvx i 2)) (pss_ost_nil))) (by simp [He.eqO_ok h.nx_InvalidNet_reason, He.eqO_ok h.nx_InvalidNet_position]) (by decide) rfl rfl rfl (by decide) (fun _ => rfl) (fun _ => rfl) (fun _ => rfl) (fun _ => ⟨_, rfl⟩)
  case b => exact .all fun us hl => match us, hl with | [_, _, _], _ => rfl
theorem f__law_same : FB (gm P0 w0 K mg base) { N := N__law_same, sc := defScope s__law_same, k := 0 } (defBody s__law_same) b__law_same := fb_cons (fs_if (ft_cmpO co_is (fe_var 1) (fe_non)) (fb_cons (fs_ret (fe_cmpO co_is (fe_var 0) (fe_non))) (fb_nil)) (fb_nil)) (fb_cons (fs_if (ft_cmpO co_is (fe_var 1) (fe_bl)) (fb_cons (fs_ret (fe_cmpO co_is (fe_var 0) (fe_bl))) (fb_nil)) (fb_nil)) (fb_cons (fs_if (ft_cmpO co_is (fe_var 1) (fe_bl)) (fb_cons (fs_ret (fe_cmpO co_is (fe_var 0) (fe_bl))) (fb_nil)) (fb_nil)) (fb_cons (fs_if (ft_val (fe_blt (b_isi h.kit) ⟨rfl, h.fr_isinstance⟩ (fa_cons (fe_var 1) (fa_cons (fe_ty (n := "int") (h.fr_int) rfl) (fa_nil))))) (fb_cons (fs_ret (fe_and (fe_blt (b_isi h.kit) ⟨rfl, h.fr_isinstance⟩ (fa_cons (fe_var 0) (fa_cons (fe_ty (n := "int") (h.fr_int) rfl) (fa_nil)))) (fe_and (fe_not (fe_blt (b_isi h.kit) ⟨rfl, h.fr_isinstance⟩ (fa_cons (fe_var 0) (fa_cons (fe_ty (n := "bool") (h.fr_bool) rfl) (fa_nil))))) (fe_one (fe_cmpO co_eq (fe_var 0) (fe_var 1)))))) (fb_nil)) (fb_nil)) (fb_cons (fs_ret (fe_and (fe_blt (b_isi h.kit) ⟨rfl, h.fr_isinstance⟩ (fa_cons (fe_var 0) (fa_cons (fe_ty (n := "str") (h.fr_str) rfl) (fa_nil)))) (fe_one (fe_cmpO co_eq (fe_var 0) (fe_var 1))))) (fb_nil)))))
theorem c__law_same : CalD (gm P0 w0 K mg base) 1 (atG "_law_same" K) [] F__law_same := by
  obtain ⟨oc, od, osl, kV, doc, pm, an, cdv, ct, lk, hcd⟩ := h.says.def_ 0 d__law_same
  exact cal_def (ps := ["_law_told", "_law_due"]) lk hcd ⟨rfl, rfl, rfl, by decide +kernel, rfl, by decide +kernel, by decide +kernel⟩ (dbnd_plain (ps := ["_law_told", "_law_due"]) fun us hl => match us, hl with | [_, _], _ => rfl) (f__law_same h)
theorem n__law_same : Nam (gm P0 w0 K mg base) 1 "_law_same" [] F__law_same := ⟨⟨_, h.gl__law_same, DefAt.keep (h.says.def_ 0 d__law_same), c__law_same h⟩⟩
theorem g__law_same : FB (gm P0 w0 K mg base) { N := N__law_same, sc := defScope s__law_same, k := 0, hot := true } (defBody s__law_same) b__law_same := fb_cons (fs_if (ft_cmpO co_is (fe_var 1) (fe_non)) (fb_cons (fs_ret (fe_cmpO co_is (fe_var 0) (fe_non))) (fb_nil)) (fb_nil)) (fb_cons (fs_if (ft_cmpO co_is (fe_var 1) (fe_bl)) (fb_cons (fs_ret (fe_cmpO co_is (fe_var 0) (fe_bl))) (fb_nil)) (fb_nil)) (fb_cons (fs_if (ft_cmpO co_is (fe_var 1) (fe_bl)) (fb_cons (fs_ret (fe_cmpO co_is (fe_var 0) (fe_bl))) (fb_nil)) (fb_nil)) (fb_cons (fs_if (ft_val (fe_blt (b_isi h.kit) ⟨rfl, h.fr_isinstance⟩ (fa_cons (fe_var 1) (fa_cons (fe_ty (n := "int") (h.fr_int) rfl) (fa_nil))))) (fb_cons (fs_ret (fe_and (fe_blt (b_isi h.kit) ⟨rfl, h.fr_isinstance⟩ (fa_cons (fe_var 0) (fa_cons (fe_ty (n := "int") (h.fr_int) rfl) (fa_nil)))) (fe_and (fe_not (fe_blt (b_isi h.kit) ⟨rfl, h.fr_isinstance⟩ (fa_cons (fe_var 0) (fa_cons (fe_ty (n := "bool") (h.fr_bool) rfl) (fa_nil))))) (fe_one (fe_cmpO co_eq (fe_var 0) (fe_var 1)))))) (fb_nil)) (fb_nil)) (fb_cons (fs_ret (fe_and (fe_blt (b_isi h.kit) ⟨rfl, h.fr_isinstance⟩ (fa_cons (fe_var 0) (fa_cons (fe_ty (n := "str") (h.fr_str) rfl) (fa_nil)))) (fe_one (fe_cmpO co_eq (fe_var 0) (fe_var 1))))) (fb_nil)))))
theorem l__law_same : NamL (gm P0 w0 K mg base) 1 "_law_same" F__law_same := by
  obtain ⟨oc, od, osl, kV, doc, pm, an, cdv, ct, lk, hcd⟩ := h.says.def_ 0 d__law_same
  exact nam_leaf (ps := ["_law_told", "_law_due"]) h.gl__law_same (DefAt.keep (h.says.def_ 0 d__law_same)) lk hcd ⟨rfl, rfl, rfl, by decide +kernel, rfl, by decide +kernel, by decide +kernel⟩ (fun us hl => match us, hl with | [_, _], _ => rfl) (g__law_same h)
theorem f__law_same_row : FB (gm P0 w0 K mg base) { N := N__law_same_row, sc := defScope s__law_same_row, k := 1 } (defBody s__law_same_row) b__law_same_row := fb_cons (fs_if (FW.ft (fw_or (ft_not (ft_val (fe_blt (b_isi h.kit) ⟨rfl, h.fr_isinstance⟩ (fa_cons (fe_var 0) (fa_cons (fe_ty (n := "tuple") (h.fr_tuple) rfl) (fa_nil)))))) (fw_one (ft_cmpO co_ne (fe_blt b_len ⟨rfl, h.fr_len⟩ (fa_cons (fe_var 0) (fa_nil))) (fe_blt b_len ⟨rfl, h.fr_len⟩ (fa_cons (fe_var 1) (fa_nil))))))) (fb_cons (fs_ret (fe_bl)) (fb_nil)) (fb_nil)) (fb_cons (fs_for (fk_rng1 ⟨rfl, h.fr_range⟩ (fa_cons (fe_blt b_len ⟨rfl, h.fr_len⟩ (fa_cons (fe_var 1) (fa_nil))) (fa_nil))) (fg_name 2) (fb_cons (fs_if (ft_not (ft_val (fe_call (n__law_same h) ⟨by decide, rfl⟩ (fa_cons (fe_ixO (fe_var 0) (fe_var 2)) (fa_cons (fe_ixO (fe_var 1) (fe_var 2)) (fa_nil)))))) (fb_cons (fs_ret (fe_bl)) (fb_nil)) (fb_nil)) (fb_nil))) (fb_cons (fs_ret (fe_bl)) (fb_nil)))
theorem c__law_same_row : CalD (gm P0 w0 K mg base) 2 (atG "_law_same_row" K) [] F__law_same_row := by
  obtain ⟨oc, od, osl, kV, doc, pm, an, cdv, ct, lk, hcd⟩ := h.says.def_ 1 d__law_same_row
  exact cal_def (ps := ["_law_told", "_law_due"]) lk hcd ⟨rfl, rfl, rfl, by decide +kernel, rfl, by decide +kernel, by decide +kernel⟩ (dbnd_plain (ps := ["_law_told", "_law_due"]) fun us hl => match us, hl with | [_, _], _ => rfl) (f__law_same_row h)
theorem n__law_same_row : Nam (gm P0 w0 K mg base) 2 "_law_same_row" [] F__law_same_row := ⟨⟨_, h.gl__law_same_row, DefAt.keep (h.says.def_ 1 d__law_same_row), c__law_same_row h⟩⟩
theorem g__law_same_row : FB (gm P0 w0 K mg base) { N := N__law_same_row, sc := defScope s__law_same_row, k := 1, hot := true } (defBody s__law_same_row) b__law_same_row := fb_cons (fs_if (FW.ft (fw_or (ft_not (ft_val (fe_blt (b_isi h.kit) ⟨rfl, h.fr_isinstance⟩ (fa_cons (fe_var 0) (fa_cons (fe_ty (n := "tuple") (h.fr_tuple) rfl) (fa_nil)))))) (fw_one (ft_cmpO co_ne (fe_blt b_len ⟨rfl, h.fr_len⟩ (fa_cons (fe_var 0) (fa_nil))) (fe_blt b_len ⟨rfl, h.fr_len⟩ (fa_cons (fe_var 1) (fa_nil))))))) (fb_cons (fs_ret (fe_bl)) (fb_nil)) (fb_nil)) (fb_cons (fs_forZ (fk_rng1Z ⟨rfl, h.fr_range⟩ (fa_cons (fe_blt b_len ⟨rfl, h.fr_len⟩ (fa_cons (fe_var 1) (fa_nil))) (fa_nil))) (fg_name 2) (fb_cons (fs_if (ft_not (ft_val (fe_callLL (l__law_same h) (by decide) (fa_cons (fe_ixO (fe_var 0) (fe_var 2)) (fa_cons (fe_ixO (fe_var 1) (fe_var 2)) (fa_nil)))))) (fb_cons (fs_ret (fe_bl)) (fb_nil)) (fb_nil)) (fb_nil))) (fb_cons (fs_ret (fe_bl)) (fb_nil)))
theorem l__law_same_row : NamL (gm P0 w0 K mg base) 2 "_law_same_row" F__law_same_row := by
  obtain ⟨oc, od, osl, kV, doc, pm, an, cdv, ct, lk, hcd⟩ := h.says.def_ 1 d__law_same_row
  exact nam_leaf (ps := ["_law_told", "_law_due"]) h.gl__law_same_row (DefAt.keep (h.says.def_ 1 d__law_same_row)) lk hcd ⟨rfl, rfl, rfl, by decide +kernel, rfl, by decide +kernel, by decide +kernel⟩ (fun us hl => match us, hl with | [_, _], _ => rfl) (g__law_same_row h)
theorem f__law_cell : FB (gm P0 w0 K mg base) { N := N__law_cell, sc := defScope s__law_cell, k := 0 } (defBody s__law_cell) b__law_cell := fb_cons (fs_if (ft_cmpO co_lt (fe_var 1) (fe_blt b_len ⟨rfl, h.fr_len⟩ (fa_cons (fe_var 0) (fa_nil)))) (fb_cons (fs_ret (fe_ixO (fe_var 0) (fe_var 1))) (fb_nil)) (fb_nil)) (fb_cons (fs_ret (fe_binO bo_add (fe_binO bo_add (fe_binO bo_mul (fe_binO bo_mod (fe_bty b_int ⟨rfl, h.fr_int⟩ (fa_cons (fe_blt b_sum ⟨rfl, h.fr_sum⟩ (fa_cons (fe_slice (fe_var 0) (fo_none) (fo_some (fe_int))) (fa_nil))) (fa_nil))) (fe_int)) (fe_int)) (fe_binO bo_mul (fe_var 1) (fe_int))) (fe_int))) (fb_nil))
theorem c__law_cell : CalD (gm P0 w0 K mg base) 1 (atG "_law_cell" K) [] F__law_cell := by
  obtain ⟨oc, od, osl, kV, doc, pm, an, cdv, ct, lk, hcd⟩ := h.says.def_ 2 d__law_cell
  exact cal_def (ps := ["_law_script", "_law_k"]) lk hcd ⟨rfl, rfl, rfl, by decide +kernel, rfl, by decide +kernel, by decide +kernel⟩ (dbnd_plain (ps := ["_law_script", "_law_k"]) fun us hl => match us, hl with | [_, _], _ => rfl) (f__law_cell h)
theorem n__law_cell : Nam (gm P0 w0 K mg base) 1 "_law_cell" [] F__law_cell := ⟨⟨_, h.gl__law_cell, DefAt.keep (h.says.def_ 2 d__law_cell), c__law_cell h⟩⟩
theorem f__law_bag : FB (gm P0 w0 K mg base) { N := N__law_bag, sc := defScope s__law_bag, k := 1 } (defBody s__law_bag) b__law_bag := fb_cons (fs_asg (fe_call (n__law_cell h) ⟨by decide, rfl⟩ (fa_cons (fe_var 0) (fa_cons (fe_var 1) (fa_nil)))) (fg_name 2)) (fb_cons (fs_if (ft_cmpO co_ge (fe_var 2) (fe_binO bo_pow (fe_int) (fe_int))) (fb_cons (fs_ret (fe_lst (fa_cons (fe_binO bo_sub (fe_var 2) (fe_binO bo_pow (fe_int) (fe_int))) (fa_cons (fe_int) (fa_nil))))) (fb_nil)) (fb_nil)) (fb_cons (fs_ret (fe_lst (fa_cons (fe_binO bo_mod (fe_bty b_int ⟨rfl, h.fr_int⟩ (fa_cons (fe_var 2) (fa_nil))) (fe_int)) (fa_cons (fe_int) (fa_nil))))) (fb_nil)))
theorem c__law_bag : CalD (gm P0 w0 K mg base) 2 (atG "_law_bag" K) [] F__law_bag := by
  obtain ⟨oc, od, osl, kV, doc, pm, an, cdv, ct, lk, hcd⟩ := h.says.def_ 3 d__law_bag
  exact cal_def (ps := ["_law_script", "_law_k"]) lk hcd ⟨rfl, rfl, rfl, by decide +kernel, rfl, by decide +kernel, by decide +kernel⟩ (dbnd_plain (ps := ["_law_script", "_law_k"]) fun us hl => match us, hl with | [_, _], _ => rfl) (f__law_bag h)
theorem n__law_bag : Nam (gm P0 w0 K mg base) 2 "_law_bag" [] F__law_bag := ⟨⟨_, h.gl__law_bag, DefAt.keep (h.says.def_ 3 d__law_bag), c__law_bag h⟩⟩
theorem f__law_draw : FB (gm P0 w0 K mg base) { N := N__law_draw, sc := defScope s__law_draw, k := 0 } (defBody s__law_draw) b__law_draw := fb_cons (fs_if (ft_cmpO co_eq (fe_ixO (fe_var 0) (fe_int)) (fe_int)) (fb_cons (fs_asg (fe_binO bo_mod (fe_bty b_int ⟨rfl, h.fr_int⟩ (fa_cons (fe_ixO (fe_var 0) (fe_int)) (fa_nil))) (fe_var 1)) (fg_name 2)) (fb_cons (fs_asg (fe_binO bo_fdiv (fe_ixO (fe_var 0) (fe_int)) (fe_var 1)) (fg_sub (fe_var 0) (fe_int))) (fb_cons (fs_ret (fe_var 2)) (fb_nil)))) (fb_nil)) (fb_cons (fs_asg (fe_binO bo_mod (fe_bty b_int ⟨rfl, h.fr_int⟩ (fa_cons (fe_binO bo_add (fe_binO bo_add (fe_binO bo_mul (fe_ixO (fe_var 0) (fe_int)) (fe_int)) (fe_binO bo_mul (fe_ixO (fe_var 0) (fe_int)) (fe_int))) (fe_int)) (fa_nil))) (fe_int)) (fg_name 3)) (fb_cons (fs_asg (fe_binO bo_mod (fe_bty b_int ⟨rfl, h.fr_int⟩ (fa_cons (fe_binO bo_add (fe_binO bo_add (fe_binO bo_mul (fe_var 3) (fe_var 3)) (fe_binO bo_mul (fe_ixO (fe_var 0) (fe_int)) (fe_int))) (fe_int)) (fa_nil))) (fe_int)) (fg_name 3)) (fb_cons (fs_asg (fe_binO bo_mod (fe_bty b_int ⟨rfl, h.fr_int⟩ (fa_cons (fe_binO bo_add (fe_binO bo_add (fe_binO bo_mul (fe_var 3) (fe_var 3)) (fe_ixO (fe_var 0) (fe_int))) (fe_int)) (fa_nil))) (fe_int)) (fg_name 3)) (fb_cons (fs_asg (fe_binO bo_add (fe_ixO (fe_var 0) (fe_int)) (fe_int)) (fg_sub (fe_var 0) (fe_int))) (fb_cons (fs_ret (fe_binO bo_mod (fe_bty b_int ⟨rfl, h.fr_int⟩ (fa_cons (fe_binO bo_fdiv (fe_var 3) (fe_int)) (fa_nil))) (fe_var 1))) (fb_nil))))))
theorem c__law_draw : CalD (gm P0 w0 K mg base) 1 (atG "_law_draw" K) [] F__law_draw := by
  obtain ⟨oc, od, osl, kV, doc, pm, an, cdv, ct, lk, hcd⟩ := h.says.def_ 4 d__law_draw
  exact cal_def (ps := ["_law_bag_here", "_law_many"]) lk hcd ⟨rfl, rfl, rfl, by decide +kernel, rfl, by decide +kernel, by decide +kernel⟩ (dbnd_plain (ps := ["_law_bag_here", "_law_many"]) fun us hl => match us, hl with | [_, _], _ => rfl) (f__law_draw h)
theorem n__law_draw : Nam (gm P0 w0 K mg base) 1 "_law_draw" [] F__law_draw := ⟨⟨_, h.gl__law_draw, DefAt.keep (h.says.def_ 4 d__law_draw), c__law_draw h⟩⟩
theorem f__law_pairs : FB (gm P0 w0 K mg base) { N := N__law_pairs, sc := defScope s__law_pairs, k := 0 } (defBody s__law_pairs) b__law_pairs := fb_cons (fs_asg (fe_lst (fa_nil)) (fg_name 1)) (fb_cons (fs_for (fk_rng1 ⟨rfl, h.fr_range⟩ (fa_cons (fe_var 0) (fa_nil))) (fg_name 2) (fb_cons (fs_for (fk_rng2 ⟨rfl, h.fr_range⟩ (fa_cons (fe_binO bo_add (fe_var 2) (fe_int)) (fa_cons (fe_var 0) (fa_nil)))) (fg_name 3) (fb_cons (fs_if (ft_cmpO co_lt (fe_blt b_len ⟨rfl, h.fr_len⟩ (fa_cons (fe_var 1) (fa_nil))) (fe_int)) (fb_cons (fs_expr (fe_mtL m_append (fe_var 1) (fa_cons (fe_tup (fa_cons (fe_var 2) (fa_cons (fe_var 3) (fa_nil)))) (fa_nil)) PySem.F.slot_list_append PySem.F.type_list_append)) (fb_nil)) (fb_nil)) (fb_nil))) (fb_nil))) (fb_cons (fs_ret (fe_var 1)) (fb_nil)))
theorem c__law_pairs : CalD (gm P0 w0 K mg base) 1 (atG "_law_pairs" K) [] F__law_pairs := by
  obtain ⟨oc, od, osl, kV, doc, pm, an, cdv, ct, lk, hcd⟩ := h.says.def_ 5 d__law_pairs
  exact cal_def (ps := ["_law_count_here"]) lk hcd ⟨rfl, rfl, rfl, by decide +kernel, rfl, by decide +kernel, by decide +kernel⟩ (dbnd_plain (ps := ["_law_count_here"]) fun us hl => match us, hl with | [_], _ => rfl) (f__law_pairs h)
theorem n__law_pairs : Nam (gm P0 w0 K mg base) 1 "_law_pairs" [] F__law_pairs := ⟨⟨_, h.gl__law_pairs, DefAt.keep (h.says.def_ 5 d__law_pairs), c__law_pairs h⟩⟩
theorem f_numbers_by_end : FB (gm P0 w0 K mg base) { N := N_numbers_by_end, sc := defScope s_numbers_by_end, k := 0 } (defBody s_numbers_by_end) b_numbers_by_end := fb_cons (fs_setLc (k := 3) (own := [("_", 4)]) (fk_rng1 ⟨rfl, h.fr_range⟩ (fa_cons (fe_var 1) (fa_nil))) (fg_name 4) (fts_nil) (fe_lst (fa_nil))) (fb_cons (fs_for (fk_enum ⟨rfl, h.fr_enumerate⟩ (fa_cons (fe_var 0) (fa_nil))) (fg_tup (fgs_cons (fg_name 5) (fgs_cons (fg_name 6) (fgs_nil)))) (fb_cons (fs_expr (fe_mtL m_append (fe_ixO (fe_var 3) (fe_ixO (fe_var 6) (fe_var 2))) (fa_cons (fe_var 5) (fa_nil)) PySem.F.slot_list_append PySem.F.type_list_append)) (fb_nil))) (fb_cons (fs_ret (fe_bty b_tuple ⟨rfl, h.fr_tuple⟩ (fa_cons (fe_lc (own := [("numbers", 7)]) (fk_seq (fe_var 3)) (fg_name 7) (fts_nil) (fe_bty b_tuple ⟨rfl, h.fr_tuple⟩ (fa_cons (fe_var 7) (fa_nil)))) (fa_nil)))) (fb_nil)))
theorem c_numbers_by_end : CalD (gm P0 w0 K mg base) 1 (atG "numbers_by_end" K) [] F_numbers_by_end := by
  obtain ⟨oc, od, osl, kV, doc, pm, an, cdv, ct, lk, hcd⟩ := h.says.def_ 6 d_numbers_by_end
  exact cal_def (ps := ["channels", "stages", "end"]) lk hcd ⟨rfl, rfl, rfl, by decide +kernel, rfl, by decide +kernel, by decide +kernel⟩ (dbnd_plain (ps := ["channels", "stages", "end"]) fun us hl => match us, hl with | [_, _, _], _ => rfl) (f_numbers_by_end h)
theorem n_numbers_by_end : Nam (gm P0 w0 K mg base) 1 "numbers_by_end" [] F_numbers_by_end := ⟨⟨_, h.gl_numbers_by_end, DefAt.keep (h.says.def_ 6 d_numbers_by_end), c_numbers_by_end h⟩⟩
theorem f_Net_init : FB (gm P0 w0 K mg base) { N := N_Net_init, sc := defScope s_Net_init, k := 1 } (defBody s_Net_init) b_Net_init := fb_cons (fs_fld h.fl_stages (fe_var 0) (fe_var 1)) (fb_cons (fs_fld h.fl_channels (fe_var 0) (fe_var 2)) (fb_cons (fs_fld h.fl__incoming (fe_var 0) (fe_call (n_numbers_by_end h) ⟨by decide, rfl⟩ (fa_cons (fe_var 2) (fa_cons (fe_var 1) (fa_cons (fe_int) (fa_nil)))))) (fb_cons (fs_fld h.fl__outgoing (fe_var 0) (fe_call (n_numbers_by_end h) ⟨by decide, rfl⟩ (fa_cons (fe_var 2) (fa_cons (fe_var 1) (fa_cons (fe_int) (fa_nil)))))) (fb_nil))))
theorem c_Net_init : CalD (gm P0 w0 K mg base) 2 (atM "Net" "__init__" K) [] F_Net_init := by
  obtain ⟨oc, od, osl, kV, doc, pm, an, cdv, ct, lk, hcd⟩ := h.says.def_ 7 d_Net_init
  exact cal_def (ps := ["self", "stages", "channels"]) lk hcd ⟨rfl, rfl, rfl, by decide +kernel, rfl, by decide +kernel, by decide +kernel⟩ (dbnd_plain (ps := ["self", "stages", "channels"]) fun us hl => match us, hl with | [_, _, _], _ => rfl) (f_Net_init h)
theorem f_is_integer : FB (gm P0 w0 K mg base) { N := N_is_integer, sc := defScope s_is_integer, k := 0 } (defBody s_is_integer) b_is_integer := fb_cons (fs_ret (fe_and (fe_blt (b_isi h.kit) ⟨rfl, h.fr_isinstance⟩ (fa_cons (fe_var 0) (fa_cons (fe_ty (n := "int") (h.fr_int) rfl) (fa_nil)))) (fe_one (fe_not (fe_blt (b_isi h.kit) ⟨rfl, h.fr_isinstance⟩ (fa_cons (fe_var 0) (fa_cons (fe_ty (n := "bool") (h.fr_bool) rfl) (fa_nil)))))))) (fb_nil)
theorem c_is_integer : CalD (gm P0 w0 K mg base) 1 (atG "is_integer" K) [] F_is_integer := by
  obtain ⟨oc, od, osl, kV, doc, pm, an, cdv, ct, lk, hcd⟩ := h.says.def_ 8 d_is_integer
  exact cal_def (ps := ["value"]) lk hcd ⟨rfl, rfl, rfl, by decide +kernel, rfl, by decide +kernel, by decide +kernel⟩ (dbnd_plain (ps := ["value"]) fun us hl => match us, hl with | [_], _ => rfl) (f_is_integer h)
theorem n_is_integer : Nam (gm P0 w0 K mg base) 1 "is_integer" [] F_is_integer := ⟨⟨_, h.gl_is_integer, DefAt.keep (h.says.def_ 8 d_is_integer), c_is_integer h⟩⟩
theorem f_is_channel : FB (gm P0 w0 K mg base) { N := N_is_channel, sc := defScope s_is_channel, k := 1 } (defBody s_is_channel) b_is_channel := fb_cons (fs_if (FW.ft (fw_or (ft_not (ft_val (fe_blt (b_isi h.kit) ⟨rfl, h.fr_isinstance⟩ (fa_cons (fe_var 0) (fa_cons (fe_ty (n := "tuple") (h.fr_tuple) rfl) (fa_nil)))))) (fw_one (ft_cmpO co_notin (fe_blt b_len ⟨rfl, h.fr_len⟩ (fa_cons (fe_var 0) (fa_nil))) (fe_tup (fa_cons (fe_int) (fa_cons (fe_int) (fa_nil)))))))) (fb_cons (fs_ret (fe_bl)) (fb_nil)) (fb_nil)) (fb_cons (fs_for (fk_seq (fe_slice (fe_var 0) (fo_none) (fo_some (fe_int)))) (fg_name 2) (fb_cons (fs_if (FW.ft (fw_or (ft_not (ft_val (fe_call (n_is_integer h) ⟨by decide, rfl⟩ (fa_cons (fe_var 2) (fa_nil))))) (fw_one (ft_not (ft_chainO co_le co_lt (fe_int) (fe_var 2) (fe_var 1)))))) (fb_cons (fs_ret (fe_bl)) (fb_nil)) (fb_nil)) (fb_nil))) (fb_cons (fs_ret (fe_cmpO co_ne (fe_ixO (fe_var 0) (fe_int)) (fe_ixO (fe_var 0) (fe_int)))) (fb_nil)))
theorem c_is_channel : CalD (gm P0 w0 K mg base) 2 (atG "is_channel" K) [] F_is_channel := by
  obtain ⟨oc, od, osl, kV, doc, pm, an, cdv, ct, lk, hcd⟩ := h.says.def_ 9 d_is_channel
  exact cal_def (ps := ["channel", "stages"]) lk hcd ⟨rfl, rfl, rfl, by decide +kernel, rfl, by decide +kernel, by decide +kernel⟩ (dbnd_plain (ps := ["channel", "stages"]) fun us hl => match us, hl with | [_, _], _ => rfl) (f_is_channel h)
theorem n_is_channel : Nam (gm P0 w0 K mg base) 2 "is_channel" [] F_is_channel := ⟨⟨_, h.gl_is_channel, DefAt.keep (h.says.def_ 9 d_is_channel), c_is_channel h⟩⟩
theorem f_Net_is_capacity : FB (gm P0 w0 K mg base) { N := N_Net_is_capacity, sc := defScope s_Net_is_capacity, k := 1 } (defBody s_Net_is_capacity) b_Net_is_capacity := fb_cons (fs_ret (fe_and (fe_call (n_is_integer h) ⟨by decide, rfl⟩ (fa_cons (fe_var 0) (fa_nil))) (fe_one (fe_chainO co_le co_le (fe_int) (fe_var 0) (fe_cst (bCst_ok (h.gl_Net) h.rd_Net h.cs_Net_MOST_CAPACITY fun _ _ => .int _)))))) (fb_nil)
theorem c_Net_is_capacity : CalD (gm P0 w0 K mg base) 2 (atR "staticmethod" "Net" "is_capacity" K) [] F_Net_is_capacity := by
  obtain ⟨oc, od, osl, kV, doc, pm, an, cdv, ct, lk, hcd⟩ := h.says.def_ 10 d_Net_is_capacity
  exact cal_def (ps := ["value"]) lk hcd ⟨rfl, rfl, rfl, by decide +kernel, rfl, by decide +kernel, by decide +kernel⟩ (dbnd_plain (ps := ["value"]) fun us hl => match us, hl with | [_], _ => rfl) (f_Net_is_capacity h)
theorem v_Net_is_capacity : StmOk (gm P0 w0 K mg base) 2 "Net" "is_capacity" F_Net_is_capacity := bStm_ok h.gl_Net h.rd_Net h.st_Net_is_capacity (DefAt.keep (h.says.def_ 10 d_Net_is_capacity)) (c_Net_is_capacity h)
theorem f_check_channels : FB (gm P0 w0 K mg base) { N := N_check_channels, sc := defScope s_check_channels, k := 2 } (defBody s_check_channels) b_check_channels := fb_cons (fs_asg (fe_newT) (fg_name 2)) (fb_cons (fs_for (fk_enum ⟨rfl, h.fr_enumerate⟩ (fa_cons (fe_var 0) (fa_nil))) (fg_tup (fgs_cons (fg_name 3) (fgs_cons (fg_name 4) (fgs_nil)))) (fb_cons (fs_if (ft_not (ft_val (fe_call (n_is_channel h) ⟨by decide, rfl⟩ (fa_cons (fe_var 4) (fa_cons (fe_var 1) (fa_nil)))))) (fb_cons (fs_raise (x_InvalidNet h) ⟨by decide, rfl⟩ (fa_cons (fe_str) (fa_cons (fe_var 3) (fa_nil)))) (fb_nil)) (fb_nil)) (fb_cons (fs_if (FW.ft (fw_and (ft_cmpO co_eq (fe_blt b_len ⟨rfl, h.fr_len⟩ (fa_cons (fe_var 4) (fa_nil))) (fe_int)) (fw_one (ft_not (ft_val (fe_smeth (v_Net_is_capacity h) ⟨by decide, rfl⟩ (fa_cons (fe_ixO (fe_var 4) (fe_int)) (fa_nil)))))))) (fb_cons (fs_raise (x_InvalidNet h) ⟨by decide, rfl⟩ (fa_cons (fe_str) (fa_cons (fe_var 3) (fa_nil)))) (fb_nil)) (fb_nil)) (fb_cons (fs_if (ft_cmpO co_in (fe_slice (fe_var 4) (fo_none) (fo_some (fe_int))) (fe_var 2)) (fb_cons (fs_raise (x_InvalidNet h) ⟨by decide, rfl⟩ (fa_cons (fe_str) (fa_cons (fe_var 3) (fa_nil)))) (fb_nil)) (fb_nil)) (fb_cons (fs_asg (fe_bl) (fg_sub (fe_var 2) (fe_slice (fe_var 4) (fo_none) (fo_some (fe_int))))) (fb_nil)))))) (fb_nil))
theorem c_check_channels : CalD (gm P0 w0 K mg base) 3 (atG "check_channels" K) [] F_check_channels := by
  obtain ⟨oc, od, osl, kV, doc, pm, an, cdv, ct, lk, hcd⟩ := h.says.def_ 11 d_check_channels
  exact cal_def (ps := ["channels", "stages"]) lk hcd ⟨rfl, rfl, rfl, by decide +kernel, rfl, by decide +kernel, by decide +kernel⟩ (dbnd_plain (ps := ["channels", "stages"]) fun us hl => match us, hl with | [_, _], _ => rfl) (f_check_channels h)
theorem n_check_channels : Nam (gm P0 w0 K mg base) 3 "check_channels" [] F_check_channels := ⟨⟨_, h.gl_check_channels, DefAt.keep (h.says.def_ 11 d_check_channels), c_check_channels h⟩⟩
theorem f_has_circle : FB (gm P0 w0 K mg base) { N := N_has_circle, sc := defScope s_has_circle, k := 0 } (defBody s_has_circle) b_has_circle := fb_cons (fs_asg (fe_binO bo_mul (fe_lst (fa_cons (fe_int) (fa_nil))) (fe_var 1)) (fg_name 2)) (fb_cons (fs_for (fk_seq (fe_var 0)) (fg_name 3) (fb_cons (fs_augS (fun _ => ip_add) (fe_var 2) (fe_ixO (fe_var 3) (fe_int)) (fe_int)) (fb_nil))) (fb_cons (fs_setLc (k := 4) (own := [("stage", 5)]) (fk_rng1 ⟨rfl, h.fr_range⟩ (fa_cons (fe_var 1) (fa_nil))) (fg_name 5) (fts_one (ft_cmpO co_eq (fe_ixO (fe_var 2) (fe_var 5)) (fe_int))) (fe_var 5)) (fb_cons (fs_asg (fe_int) (fg_name 6)) (fb_cons (fs_while (ft_cmpO co_gt (fe_blt b_len ⟨rfl, h.fr_len⟩ (fa_cons (fe_var 4) (fa_nil))) (fe_int)) (fb_cons (fs_asg (fe_mtL0 m_pop (fe_var 4) PySem.F.slot_list_pop PySem.F.type_list_pop) (fg_name 5)) (fb_cons (fs_augN 6 (fun _ => ip_add) (fe_int)) (fb_cons (fs_for (fk_seq (fe_var 0)) (fg_name 3) (fb_cons (fs_if (ft_cmpO co_eq (fe_ixO (fe_var 3) (fe_int)) (fe_var 5)) (fb_cons (fs_augS (fun _ => ip_sub) (fe_var 2) (fe_ixO (fe_var 3) (fe_int)) (fe_int)) (fb_cons (fs_if (ft_cmpO co_eq (fe_ixO (fe_var 2) (fe_ixO (fe_var 3) (fe_int))) (fe_int)) (fb_cons (fs_expr (fe_mtL m_append (fe_var 4) (fa_cons (fe_ixO (fe_var 3) (fe_int)) (fa_nil)) PySem.F.slot_list_append PySem.F.type_list_append)) (fb_nil)) (fb_nil)) (fb_nil))) (fb_nil)) (fb_nil))) (fb_nil))))) (fb_cons (fs_ret (fe_cmpO co_lt (fe_var 6) (fe_var 1))) (fb_nil))))))
theorem c_has_circle : CalD (gm P0 w0 K mg base) 1 (atG "has_circle" K) [] F_has_circle := by
  obtain ⟨oc, od, osl, kV, doc, pm, an, cdv, ct, lk, hcd⟩ := h.says.def_ 12 d_has_circle
  exact cal_def (ps := ["channels", "stages"]) lk hcd ⟨rfl, rfl, rfl, by decide +kernel, rfl, by decide +kernel, by decide +kernel⟩ (dbnd_plain (ps := ["channels", "stages"]) fun us hl => match us, hl with | [_, _], _ => rfl) (f_has_circle h)
theorem n_has_circle : Nam (gm P0 w0 K mg base) 1 "has_circle" [] F_has_circle := ⟨⟨_, h.gl_has_circle, DefAt.keep (h.says.def_ 12 d_has_circle), c_has_circle h⟩⟩
theorem f_Pipeline_init {q : SupC} (SF : SupF P0 K mg q.f q.cda q.cc q.D q.self) (hD : q.D = He.ga K "Pipeline") (hs : q.self = "self") : FBa (gm P0 w0 K mg base) { N := N_Pipeline_init, sc := defScope s_Pipeline_init, k := 3, ow := fun x => x != clsN } q (defBody s_Pipeline_init) (defBody s_Pipeline_init) b_Pipeline_init := by
  obtain ⟨f0, cda, cc, D0, self⟩ := q
  dsimp only at hD hs SF
  subst hD hs
  have hT : ∀ cn F, [(8, F_Net_init)].lookup cn = some F → ∃ f2, SupM K ((gm P0 w0 K mg base).cls cn) (He.ga K "Pipeline") "__init__" f2 ∧ CalD (gm P0 w0 K mg base) 3 f2 [] F := fun cn F hc => by
    have hm := lookup_mem hc
    simp only [List.mem_cons, List.not_mem_nil, or_false, Prod.mk.injEq] at hm
    rcases hm with ⟨rfl, rfl⟩
    · exact ⟨_, bSupM_ok h.sm_Pipeline_Pipeline_init, (c_Net_init h).mono (by decide)⟩
  exact fba_cons (FS.at (fs_if (FW.ft (fw_or (ft_not (ft_val (fe_call (n_is_integer h) ⟨by decide, rfl⟩ (fa_cons (fe_var 1) (fa_nil))))) (fw_one (ft_not (ft_chainO co_le co_le (fe_int) (fe_var 1) (fe_cst (bCst_ok (h.gl_Net) h.rd_Net h.cs_Net_MOST_STAGES fun _ _ => .int _))))))) (fb_cons (fs_raise (x_InvalidNet h) ⟨by decide, rfl⟩ (fa_cons (fe_str) (fa_cons (fe_non) (fa_nil)))) (fb_nil)) (fb_nil))) (fba_cons (FS.at (fs_if (ft_cmpO co_gt (fe_blt b_len ⟨rfl, h.fr_len⟩ (fa_cons (fe_var 3) (fa_nil))) (fe_cst (bCst_ok (h.gl_Net) h.rd_Net h.cs_Net_MOST_CHANNELS fun _ _ => .int _))) (fb_cons (fs_raise (x_InvalidNet h) ⟨by decide, rfl⟩ (fa_cons (fe_str) (fa_cons (fe_non) (fa_nil)))) (fb_nil)) (fb_nil))) (fba_cons (FS.at (fs_expr (fe_call (n_check_channels h) ⟨by decide, rfl⟩ (fa_cons (fe_var 3) (fa_cons (fe_var 1) (fa_nil)))))) (fba_cons (FS.at (fs_if (ft_not (ft_val (fe_smeth (v_Net_is_capacity h) ⟨by decide, rfl⟩ (fa_cons (fe_var 2) (fa_nil))))) (fb_cons (fs_raise (x_InvalidNet h) ⟨by decide, rfl⟩ (fa_cons (fe_str) (fa_cons (fe_non) (fa_nil)))) (fb_nil)) (fb_nil))) (fba_cons (FS.at (fs_if (ft_val (fe_call (n_has_circle h) ⟨by decide, rfl⟩ (fa_cons (fe_var 3) (fa_cons (fe_var 1) (fa_nil))))) (fb_cons (fs_raise (x_InvalidNet h) ⟨by decide, rfl⟩ (fa_cons (fe_str) (fa_cons (fe_non) (fa_nil)))) (fb_nil)) (fb_nil))) (fba_cons (FS.at (fs_setLc (k := 4) (own := [("channel", 5)]) (fk_seq (fe_var 3)) (fg_name 5) (fts_nil) (fe_if (ft_cmpO co_eq (fe_blt b_len ⟨rfl, h.fr_len⟩ (fa_cons (fe_var 5) (fa_nil))) (fe_int)) (fe_var 5) (fe_tup (fa_cons (fe_ixO (fe_var 5) (fe_int)) (fa_cons (fe_ixO (fe_var 5) (fe_int)) (fa_cons (fe_var 2) (fa_nil)))))))) (fba_cons (fsa_super (i := 0) (k := 3) SF hT ⟨by decide, rfl⟩ (fa_cons (fe_var 1) (fa_cons (fe_bty b_tuple ⟨rfl, h.fr_tuple⟩ (fa_cons (fe_blt b_sorted' ⟨rfl, h.fr_sorted⟩ (fa_cons (fe_var 4) (fa_nil))) (fa_nil))) (fa_nil))) (hcd := by show (("self" : Str) == ("__classdict__" : Str)) = false; decide)) (FB.at fb_nil)))))))
theorem c_Pipeline_init : CalD (gm P0 w0 K mg base) 4 (atM "Pipeline" "__init__" K) [] F_Pipeline_init := by
  obtain ⟨oc, od, osl, kV, doc, pm, an, cda, ct, cc, lk, hcd, hcell, hfile⟩ := h.says.sup 13 d_Pipeline_init "Pipeline"
  have SF : SupF P0 K mg (atM "Pipeline" "__init__" K) cda cc (He.ga K "Pipeline") "self" := ⟨fun l => by have z := lk.symm.trans l; cases z; exact ⟨_, rfl, rfl⟩, by rw [h.file]; exact hfile, hcell, bIsc_ok h.ic_Pipeline, h.scp, h.fr_super, He.eqO_ok h.third⟩
  obtain ⟨Dk, u, ek, hn, hu⟩ := bKwd_ok h.kw_Pipeline_init lk
  have ek' : kV = .ref Dk := ek
  subst ek'
  exact cal_sup (ps := ["self", "stages", "capacity", "channels"]) (self := "self") lk hcd ⟨rfl, rfl, rfl, by decide +kernel, rfl, by decide +kernel, by decide +kernel, rfl, by decide +kernel⟩ hcell (dbnd_starK (ps := ["self", "stages"]) (pv := "channels") (kw := "capacity") (kv := .int 1) (kd := .int 1) hn hu (fun _ _ => .int _) fun us rest hl => match us, rest, hl with | [_, _], [], _ => ⟨_, _, _, _, _, _, rfl, rfl, rfl⟩ | [_, _], _ :: _, _ => ⟨_, _, _, _, _, _, rfl, rfl, rfl⟩) (f_Pipeline_init h SF rfl rfl)
theorem cw_Pipeline_init : CalD (gm P0 w0 K mg base) 4 (atM "Pipeline" "__init__" K) ["capacity"] FW_Pipeline_init := by
  obtain ⟨oc, od, osl, kV, doc, pm, an, cda, ct, cc, lk, hcd, hcell, hfile⟩ := h.says.sup 13 d_Pipeline_init "Pipeline"
  have SF : SupF P0 K mg (atM "Pipeline" "__init__" K) cda cc (He.ga K "Pipeline") "self" := ⟨fun l => by have z := lk.symm.trans l; cases z; exact ⟨_, rfl, rfl⟩, by rw [h.file]; exact hfile, hcell, bIsc_ok h.ic_Pipeline, h.scp, h.fr_super, He.eqO_ok h.third⟩
  exact cal_sup (ps := ["self", "stages", "capacity", "channels"]) (self := "self") lk hcd ⟨rfl, rfl, rfl, by decide +kernel, rfl, by decide +kernel, by decide +kernel, rfl, by decide +kernel⟩ hcell (dbnd_starW (ps := ["self", "stages"]) (pv := "channels") (kw := "capacity") fun us rest w hl => match us, rest, hl with | [_, _], [], _ => rfl | [_, _], _ :: _, _ => rfl) (f_Pipeline_init h SF rfl rfl)
theorem m_Pipeline : Nam (gm P0 w0 K mg base) 5 "Pipeline" [] C_Pipeline := ⟨⟨_, h.gl_Pipeline, (He.mkr_ok h.mk_Pipeline).kp, cal_cls (g := (gm P0 w0 K mg base)) (c := 8) (He.mkr_ok h.mk_Pipeline) (c_Pipeline_init h)⟩⟩
theorem mw_Pipeline : Nam (gm P0 w0 K mg base) 5 "Pipeline" ["capacity"] CW_Pipeline := ⟨⟨_, h.gl_Pipeline, (He.mkr_ok h.mk_Pipeline).kp, cal_cls (g := (gm P0 w0 K mg base)) (c := 8) (He.mkr_ok h.mk_Pipeline) (cw_Pipeline_init h)⟩⟩
theorem f__law_keyed : FB (gm P0 w0 K mg base) { N := N__law_keyed, sc := defScope s__law_keyed, k := 5 } (defBody s__law_keyed) b__law_keyed := fb_cons (fs_if (ft_cmpO co_eq (fe_blt b_len ⟨rfl, h.fr_len⟩ (fa_cons (fe_var 1) (fa_nil))) (fe_int)) (fb_cons (fs_ret (fe_callK (mw_Pipeline h) ⟨by decide, rfl⟩ (fa_cons (fe_var 0) (fa_nil)) (fkw_cons (fe_var 2) fkw_nil) (hlen := kw_len1))) (fb_nil)) (fb_nil)) (fb_cons (fs_if (ft_cmpO co_eq (fe_blt b_len ⟨rfl, h.fr_len⟩ (fa_cons (fe_var 1) (fa_nil))) (fe_int)) (fb_cons (fs_ret (fe_callK (mw_Pipeline h) ⟨by decide, rfl⟩ (fa_cons (fe_var 0) (fa_cons (fe_ixO (fe_var 1) (fe_int)) (fa_nil))) (fkw_cons (fe_var 2) fkw_nil) (hlen := kw_len1))) (fb_nil)) (fb_nil)) (fb_cons (fs_if (ft_cmpO co_eq (fe_blt b_len ⟨rfl, h.fr_len⟩ (fa_cons (fe_var 1) (fa_nil))) (fe_int)) (fb_cons (fs_ret (fe_callK (mw_Pipeline h) ⟨by decide, rfl⟩ (fa_cons (fe_var 0) (fa_cons (fe_ixO (fe_var 1) (fe_int)) (fa_cons (fe_ixO (fe_var 1) (fe_int)) (fa_nil)))) (fkw_cons (fe_var 2) fkw_nil) (hlen := kw_len1))) (fb_nil)) (fb_nil)) (fb_cons (fs_if (ft_cmpO co_eq (fe_blt b_len ⟨rfl, h.fr_len⟩ (fa_cons (fe_var 1) (fa_nil))) (fe_int)) (fb_cons (fs_ret (fe_callK (mw_Pipeline h) ⟨by decide, rfl⟩ (fa_cons (fe_var 0) (fa_cons (fe_ixO (fe_var 1) (fe_int)) (fa_cons (fe_ixO (fe_var 1) (fe_int)) (fa_cons (fe_ixO (fe_var 1) (fe_int)) (fa_nil))))) (fkw_cons (fe_var 2) fkw_nil) (hlen := kw_len1))) (fb_nil)) (fb_nil)) (fb_cons (fs_if (ft_cmpO co_eq (fe_blt b_len ⟨rfl, h.fr_len⟩ (fa_cons (fe_var 1) (fa_nil))) (fe_int)) (fb_cons (fs_ret (fe_callK (mw_Pipeline h) ⟨by decide, rfl⟩ (fa_cons (fe_var 0) (fa_cons (fe_ixO (fe_var 1) (fe_int)) (fa_cons (fe_ixO (fe_var 1) (fe_int)) (fa_cons (fe_ixO (fe_var 1) (fe_int)) (fa_cons (fe_ixO (fe_var 1) (fe_int)) (fa_nil)))))) (fkw_cons (fe_var 2) fkw_nil) (hlen := kw_len1))) (fb_nil)) (fb_nil)) (fb_cons (fs_if (ft_cmpO co_eq (fe_blt b_len ⟨rfl, h.fr_len⟩ (fa_cons (fe_var 1) (fa_nil))) (fe_int)) (fb_cons (fs_ret (fe_callK (mw_Pipeline h) ⟨by decide, rfl⟩ (fa_cons (fe_var 0) (fa_cons (fe_ixO (fe_var 1) (fe_int)) (fa_cons (fe_ixO (fe_var 1) (fe_int)) (fa_cons (fe_ixO (fe_var 1) (fe_int)) (fa_cons (fe_ixO (fe_var 1) (fe_int)) (fa_cons (fe_ixO (fe_var 1) (fe_int)) (fa_nil))))))) (fkw_cons (fe_var 2) fkw_nil) (hlen := kw_len1))) (fb_nil)) (fb_nil)) (fb_cons (fs_if (ft_cmpO co_eq (fe_blt b_len ⟨rfl, h.fr_len⟩ (fa_cons (fe_var 1) (fa_nil))) (fe_int)) (fb_cons (fs_ret (fe_callK (mw_Pipeline h) ⟨by decide, rfl⟩ (fa_cons (fe_var 0) (fa_cons (fe_ixO (fe_var 1) (fe_int)) (fa_cons (fe_ixO (fe_var 1) (fe_int)) (fa_cons (fe_ixO (fe_var 1) (fe_int)) (fa_cons (fe_ixO (fe_var 1) (fe_int)) (fa_cons (fe_ixO (fe_var 1) (fe_int)) (fa_cons (fe_ixO (fe_var 1) (fe_int)) (fa_nil)))))))) (fkw_cons (fe_var 2) fkw_nil) (hlen := kw_len1))) (fb_nil)) (fb_nil)) (fb_cons (fs_ret (fe_callK (mw_Pipeline h) ⟨by decide, rfl⟩ (fa_cons (fe_var 0) (fa_cons (fe_ixO (fe_var 1) (fe_int)) (fa_cons (fe_ixO (fe_var 1) (fe_int)) (fa_cons (fe_ixO (fe_var 1) (fe_int)) (fa_cons (fe_ixO (fe_var 1) (fe_int)) (fa_cons (fe_ixO (fe_var 1) (fe_int)) (fa_cons (fe_ixO (fe_var 1) (fe_int)) (fa_cons (fe_ixO (fe_var 1) (fe_int)) (fa_nil))))))))) (fkw_cons (fe_var 2) fkw_nil) (hlen := kw_len1))) (fb_nil))))))))
theorem c__law_keyed : CalD (gm P0 w0 K mg base) 6 (atG "_law_keyed" K) [] F__law_keyed := by
  obtain ⟨oc, od, osl, kV, doc, pm, an, cdv, ct, lk, hcd⟩ := h.says.def_ 14 d__law_keyed
  exact cal_def (ps := ["_law_count_here", "_law_c", "_law_extra_here"]) lk hcd ⟨rfl, rfl, rfl, by decide +kernel, rfl, by decide +kernel, by decide +kernel⟩ (dbnd_plain (ps := ["_law_count_here", "_law_c", "_law_extra_here"]) fun us hl => match us, hl with | [_, _, _], _ => rfl) (f__law_keyed h)
theorem n__law_keyed : Nam (gm P0 w0 K mg base) 6 "_law_keyed" [] F__law_keyed := ⟨⟨_, h.gl__law_keyed, DefAt.keep (h.says.def_ 14 d__law_keyed), c__law_keyed h⟩⟩
theorem f__law_forty : FB (gm P0 w0 K mg base) { N := N__law_forty, sc := defScope s__law_forty, k := 5 } (defBody s__law_forty) b__law_forty := fb_cons (fs_ret (fe_call (m_Pipeline h) ⟨by decide, rfl⟩ (fa_cons (fe_var 0) (fa_cons (fe_ixO (fe_var 1) (fe_int)) (fa_cons (fe_ixO (fe_var 1) (fe_int)) (fa_cons (fe_ixO (fe_var 1) (fe_int)) (fa_cons (fe_ixO (fe_var 1) (fe_int)) (fa_cons (fe_ixO (fe_var 1) (fe_int)) (fa_cons (fe_ixO (fe_var 1) (fe_int)) (fa_cons (fe_ixO (fe_var 1) (fe_int)) (fa_cons (fe_ixO (fe_var 1) (fe_int)) (fa_cons (fe_ixO (fe_var 1) (fe_int)) (fa_cons (fe_ixO (fe_var 1) (fe_int)) (fa_cons (fe_ixO (fe_var 1) (fe_int)) (fa_cons (fe_ixO (fe_var 1) (fe_int)) (fa_cons (fe_ixO (fe_var 1) (fe_int)) (fa_cons (fe_ixO (fe_var 1) (fe_int)) (fa_cons (fe_ixO (fe_var 1) (fe_int)) (fa_cons (fe_ixO (fe_var 1) (fe_int)) (fa_cons (fe_ixO (fe_var 1) (fe_int)) (fa_cons (fe_ixO (fe_var 1) (fe_int)) (fa_cons (fe_ixO (fe_var 1) (fe_int)) (fa_cons (fe_ixO (fe_var 1) (fe_int)) (fa_cons (fe_ixO (fe_var 1) (fe_int)) (fa_cons (fe_ixO (fe_var 1) (fe_int)) (fa_cons (fe_ixO (fe_var 1) (fe_int)) (fa_cons (fe_ixO (fe_var 1) (fe_int)) (fa_cons (fe_ixO (fe_var 1) (fe_int)) (fa_cons (fe_ixO (fe_var 1) (fe_int)) (fa_cons (fe_ixO (fe_var 1) (fe_int)) (fa_cons (fe_ixO (fe_var 1) (fe_int)) (fa_cons (fe_ixO (fe_var 1) (fe_int)) (fa_cons (fe_ixO (fe_var 1) (fe_int)) (fa_cons (fe_ixO (fe_var 1) (fe_int)) (fa_cons (fe_ixO (fe_var 1) (fe_int)) (fa_cons (fe_ixO (fe_var 1) (fe_int)) (fa_cons (fe_ixO (fe_var 1) (fe_int)) (fa_cons (fe_ixO (fe_var 1) (fe_int)) (fa_cons (fe_ixO (fe_var 1) (fe_int)) (fa_cons (fe_ixO (fe_var 1) (fe_int)) (fa_cons (fe_ixO (fe_var 1) (fe_int)) (fa_cons (fe_ixO (fe_var 1) (fe_int)) (fa_cons (fe_ixO (fe_var 1) (fe_int)) (fa_nil)))))))))))))))))))))))))))))))))))))))))))) (fb_nil)
theorem c__law_forty : CalD (gm P0 w0 K mg base) 6 (atG "_law_forty" K) [] F__law_forty := by
  obtain ⟨oc, od, osl, kV, doc, pm, an, cdv, ct, lk, hcd⟩ := h.says.def_ 15 d__law_forty
  exact cal_def (ps := ["_law_count_here", "_law_c"]) lk hcd ⟨rfl, rfl, rfl, by decide +kernel, rfl, by decide +kernel, by decide +kernel⟩ (dbnd_plain (ps := ["_law_count_here", "_law_c"]) fun us hl => match us, hl with | [_, _], _ => rfl) (f__law_forty h)
theorem n__law_forty : Nam (gm P0 w0 K mg base) 6 "_law_forty" [] F__law_forty := ⟨⟨_, h.gl__law_forty, DefAt.keep (h.says.def_ 15 d__law_forty), c__law_forty h⟩⟩
theorem f__law_full : FB (gm P0 w0 K mg base) { N := N__law_full, sc := defScope s__law_full, k := 5 } (defBody s__law_full) b__law_full := fb_cons (fs_ret (fe_call (m_Pipeline h) ⟨by decide, rfl⟩ (fa_cons (fe_var 0) (fa_cons (fe_ixO (fe_var 1) (fe_int)) (fa_cons (fe_ixO (fe_var 1) (fe_int)) (fa_cons (fe_ixO (fe_var 1) (fe_int)) (fa_cons (fe_ixO (fe_var 1) (fe_int)) (fa_cons (fe_ixO (fe_var 1) (fe_int)) (fa_cons (fe_ixO (fe_var 1) (fe_int)) (fa_cons (fe_ixO (fe_var 1) (fe_int)) (fa_cons (fe_ixO (fe_var 1) (fe_int)) (fa_cons (fe_ixO (fe_var 1) (fe_int)) (fa_cons (fe_ixO (fe_var 1) (fe_int)) (fa_cons (fe_ixO (fe_var 1) (fe_int)) (fa_cons (fe_ixO (fe_var 1) (fe_int)) (fa_cons (fe_ixO (fe_var 1) (fe_int)) (fa_cons (fe_ixO (fe_var 1) (fe_int)) (fa_cons (fe_ixO (fe_var 1) (fe_int)) (fa_cons (fe_ixO (fe_var 1) (fe_int)) (fa_cons (fe_ixO (fe_var 1) (fe_int)) (fa_cons (fe_ixO (fe_var 1) (fe_int)) (fa_cons (fe_ixO (fe_var 1) (fe_int)) (fa_cons (fe_ixO (fe_var 1) (fe_int)) (fa_cons (fe_ixO (fe_var 1) (fe_int)) (fa_cons (fe_ixO (fe_var 1) (fe_int)) (fa_cons (fe_ixO (fe_var 1) (fe_int)) (fa_cons (fe_ixO (fe_var 1) (fe_int)) (fa_cons (fe_ixO (fe_var 1) (fe_int)) (fa_cons (fe_ixO (fe_var 1) (fe_int)) (fa_cons (fe_ixO (fe_var 1) (fe_int)) (fa_cons (fe_ixO (fe_var 1) (fe_int)) (fa_cons (fe_ixO (fe_var 1) (fe_int)) (fa_cons (fe_ixO (fe_var 1) (fe_int)) (fa_cons (fe_ixO (fe_var 1) (fe_int)) (fa_cons (fe_ixO (fe_var 1) (fe_int)) (fa_cons (fe_ixO (fe_var 1) (fe_int)) (fa_cons (fe_ixO (fe_var 1) (fe_int)) (fa_cons (fe_ixO (fe_var 1) (fe_int)) (fa_cons (fe_ixO (fe_var 1) (fe_int)) (fa_cons (fe_ixO (fe_var 1) (fe_int)) (fa_cons (fe_ixO (fe_var 1) (fe_int)) (fa_cons (fe_ixO (fe_var 1) (fe_int)) (fa_cons (fe_ixO (fe_var 1) (fe_int)) (fa_cons (fe_ixO (fe_var 1) (fe_int)) (fa_cons (fe_ixO (fe_var 1) (fe_int)) (fa_cons (fe_ixO (fe_var 1) (fe_int)) (fa_cons (fe_ixO (fe_var 1) (fe_int)) (fa_cons (fe_ixO (fe_var 1) (fe_int)) (fa_cons (fe_ixO (fe_var 1) (fe_int)) (fa_cons (fe_ixO (fe_var 1) (fe_int)) (fa_cons (fe_ixO (fe_var 1) (fe_int)) (fa_cons (fe_ixO (fe_var 1) (fe_int)) (fa_cons (fe_ixO (fe_var 1) (fe_int)) (fa_cons (fe_ixO (fe_var 1) (fe_int)) (fa_cons (fe_ixO (fe_var 1) (fe_int)) (fa_cons (fe_ixO (fe_var 1) (fe_int)) (fa_cons (fe_ixO (fe_var 1) (fe_int)) (fa_cons (fe_ixO (fe_var 1) (fe_int)) (fa_cons (fe_ixO (fe_var 1) (fe_int)) (fa_cons (fe_ixO (fe_var 1) (fe_int)) (fa_cons (fe_ixO (fe_var 1) (fe_int)) (fa_cons (fe_ixO (fe_var 1) (fe_int)) (fa_cons (fe_ixO (fe_var 1) (fe_int)) (fa_cons (fe_ixO (fe_var 1) (fe_int)) (fa_cons (fe_ixO (fe_var 1) (fe_int)) (fa_cons (fe_ixO (fe_var 1) (fe_int)) (fa_cons (fe_ixO (fe_var 1) (fe_int)) (fa_cons (fe_ixO (fe_var 1) (fe_int)) (fa_cons (fe_ixO (fe_var 1) (fe_int)) (fa_cons (fe_ixO (fe_var 1) (fe_int)) (fa_cons (fe_ixO (fe_var 1) (fe_int)) (fa_cons (fe_ixO (fe_var 1) (fe_int)) (fa_cons (fe_ixO (fe_var 1) (fe_int)) (fa_cons (fe_ixO (fe_var 1) (fe_int)) (fa_cons (fe_ixO (fe_var 1) (fe_int)) (fa_cons (fe_ixO (fe_var 1) (fe_int)) (fa_cons (fe_ixO (fe_var 1) (fe_int)) (fa_cons (fe_ixO (fe_var 1) (fe_int)) (fa_cons (fe_ixO (fe_var 1) (fe_int)) (fa_cons (fe_ixO (fe_var 1) (fe_int)) (fa_cons (fe_ixO (fe_var 1) (fe_int)) (fa_cons (fe_ixO (fe_var 1) (fe_int)) (fa_cons (fe_ixO (fe_var 1) (fe_int)) (fa_cons (fe_ixO (fe_var 1) (fe_int)) (fa_cons (fe_ixO (fe_var 1) (fe_int)) (fa_cons (fe_ixO (fe_var 1) (fe_int)) (fa_cons (fe_ixO (fe_var 1) (fe_int)) (fa_cons (fe_ixO (fe_var 1) (fe_int)) (fa_cons (fe_ixO (fe_var 1) (fe_int)) (fa_cons (fe_ixO (fe_var 1) (fe_int)) (fa_cons (fe_ixO (fe_var 1) (fe_int)) (fa_cons (fe_ixO (fe_var 1) (fe_int)) (fa_cons (fe_ixO (fe_var 1) (fe_int)) (fa_cons (fe_ixO (fe_var 1) (fe_int)) (fa_cons (fe_ixO (fe_var 1) (fe_int)) (fa_cons (fe_ixO (fe_var 1) (fe_int)) (fa_cons (fe_ixO (fe_var 1) (fe_int)) (fa_cons (fe_ixO (fe_var 1) (fe_int)) (fa_cons (fe_ixO (fe_var 1) (fe_int)) (fa_cons (fe_ixO (fe_var 1) (fe_int)) (fa_cons (fe_ixO (fe_var 1) (fe_int)) (fa_cons (fe_ixO (fe_var 1) (fe_int)) (fa_cons (fe_ixO (fe_var 1) (fe_int)) (fa_cons (fe_ixO (fe_var 1) (fe_int)) (fa_cons (fe_ixO (fe_var 1) (fe_int)) (fa_cons (fe_ixO (fe_var 1) (fe_int)) (fa_cons (fe_ixO (fe_var 1) (fe_int)) (fa_cons (fe_ixO (fe_var 1) (fe_int)) (fa_cons (fe_ixO (fe_var 1) (fe_int)) (fa_cons (fe_ixO (fe_var 1) (fe_int)) (fa_cons (fe_ixO (fe_var 1) (fe_int)) (fa_cons (fe_ixO (fe_var 1) (fe_int)) (fa_cons (fe_ixO (fe_var 1) (fe_int)) (fa_cons (fe_ixO (fe_var 1) (fe_int)) (fa_cons (fe_ixO (fe_var 1) (fe_int)) (fa_cons (fe_ixO (fe_var 1) (fe_int)) (fa_cons (fe_ixO (fe_var 1) (fe_int)) (fa_cons (fe_ixO (fe_var 1) (fe_int)) (fa_cons (fe_ixO (fe_var 1) (fe_int)) (fa_cons (fe_ixO (fe_var 1) (fe_int)) (fa_cons (fe_ixO (fe_var 1) (fe_int)) (fa_cons (fe_ixO (fe_var 1) (fe_int)) (fa_cons (fe_ixO (fe_var 1) (fe_int)) (fa_nil)))))))))))))))))))))))))))))))))))))))))))))))))))))))))))))))))))))))))))))))))))))))))))))))))))))))))))))))))))))))))))) (fb_nil)
theorem c__law_full : CalD (gm P0 w0 K mg base) 6 (atG "_law_full" K) [] F__law_full := by
  obtain ⟨oc, od, osl, kV, doc, pm, an, cdv, ct, lk, hcd⟩ := h.says.def_ 16 d__law_full
  exact cal_def (ps := ["_law_count_here", "_law_c"]) lk hcd ⟨rfl, rfl, rfl, by decide +kernel, rfl, by decide +kernel, by decide +kernel⟩ (dbnd_plain (ps := ["_law_count_here", "_law_c"]) fun us hl => match us, hl with | [_, _], _ => rfl) (f__law_full h)
theorem n__law_full : Nam (gm P0 w0 K mg base) 6 "_law_full" [] F__law_full := ⟨⟨_, h.gl__law_full, DefAt.keep (h.says.def_ 16 d__law_full), c__law_full h⟩⟩
theorem f__law_over : FB (gm P0 w0 K mg base) { N := N__law_over, sc := defScope s__law_over, k := 5 } (defBody s__law_over) b__law_over := fb_cons (fs_ret (fe_call (m_Pipeline h) ⟨by decide, rfl⟩ (fa_cons (fe_var 0) (fa_cons (fe_ixO (fe_var 1) (fe_int)) (fa_cons (fe_ixO (fe_var 1) (fe_int)) (fa_cons (fe_ixO (fe_var 1) (fe_int)) (fa_cons (fe_ixO (fe_var 1) (fe_int)) (fa_cons (fe_ixO (fe_var 1) (fe_int)) (fa_cons (fe_ixO (fe_var 1) (fe_int)) (fa_cons (fe_ixO (fe_var 1) (fe_int)) (fa_cons (fe_ixO (fe_var 1) (fe_int)) (fa_cons (fe_ixO (fe_var 1) (fe_int)) (fa_cons (fe_ixO (fe_var 1) (fe_int)) (fa_cons (fe_ixO (fe_var 1) (fe_int)) (fa_cons (fe_ixO (fe_var 1) (fe_int)) (fa_cons (fe_ixO (fe_var 1) (fe_int)) (fa_cons (fe_ixO (fe_var 1) (fe_int)) (fa_cons (fe_ixO (fe_var 1) (fe_int)) (fa_cons (fe_ixO (fe_var 1) (fe_int)) (fa_cons (fe_ixO (fe_var 1) (fe_int)) (fa_cons (fe_ixO (fe_var 1) (fe_int)) (fa_cons (fe_ixO (fe_var 1) (fe_int)) (fa_cons (fe_ixO (fe_var 1) (fe_int)) (fa_cons (fe_ixO (fe_var 1) (fe_int)) (fa_cons (fe_ixO (fe_var 1) (fe_int)) (fa_cons (fe_ixO (fe_var 1) (fe_int)) (fa_cons (fe_ixO (fe_var 1) (fe_int)) (fa_cons (fe_ixO (fe_var 1) (fe_int)) (fa_cons (fe_ixO (fe_var 1) (fe_int)) (fa_cons (fe_ixO (fe_var 1) (fe_int)) (fa_cons (fe_ixO (fe_var 1) (fe_int)) (fa_cons (fe_ixO (fe_var 1) (fe_int)) (fa_cons (fe_ixO (fe_var 1) (fe_int)) (fa_cons (fe_ixO (fe_var 1) (fe_int)) (fa_cons (fe_ixO (fe_var 1) (fe_int)) (fa_cons (fe_ixO (fe_var 1) (fe_int)) (fa_cons (fe_ixO (fe_var 1) (fe_int)) (fa_cons (fe_ixO (fe_var 1) (fe_int)) (fa_cons (fe_ixO (fe_var 1) (fe_int)) (fa_cons (fe_ixO (fe_var 1) (fe_int)) (fa_cons (fe_ixO (fe_var 1) (fe_int)) (fa_cons (fe_ixO (fe_var 1) (fe_int)) (fa_cons (fe_ixO (fe_var 1) (fe_int)) (fa_cons (fe_ixO (fe_var 1) (fe_int)) (fa_cons (fe_ixO (fe_var 1) (fe_int)) (fa_cons (fe_ixO (fe_var 1) (fe_int)) (fa_cons (fe_ixO (fe_var 1) (fe_int)) (fa_cons (fe_ixO (fe_var 1) (fe_int)) (fa_cons (fe_ixO (fe_var 1) (fe_int)) (fa_cons (fe_ixO (fe_var 1) (fe_int)) (fa_cons (fe_ixO (fe_var 1) (fe_int)) (fa_cons (fe_ixO (fe_var 1) (fe_int)) (fa_cons (fe_ixO (fe_var 1) (fe_int)) (fa_cons (fe_ixO (fe_var 1) (fe_int)) (fa_cons (fe_ixO (fe_var 1) (fe_int)) (fa_cons (fe_ixO (fe_var 1) (fe_int)) (fa_cons (fe_ixO (fe_var 1) (fe_int)) (fa_cons (fe_ixO (fe_var 1) (fe_int)) (fa_cons (fe_ixO (fe_var 1) (fe_int)) (fa_cons (fe_ixO (fe_var 1) (fe_int)) (fa_cons (fe_ixO (fe_var 1) (fe_int)) (fa_cons (fe_ixO (fe_var 1) (fe_int)) (fa_cons (fe_ixO (fe_var 1) (fe_int)) (fa_cons (fe_ixO (fe_var 1) (fe_int)) (fa_cons (fe_ixO (fe_var 1) (fe_int)) (fa_cons (fe_ixO (fe_var 1) (fe_int)) (fa_cons (fe_ixO (fe_var 1) (fe_int)) (fa_cons (fe_ixO (fe_var 1) (fe_int)) (fa_cons (fe_ixO (fe_var 1) (fe_int)) (fa_cons (fe_ixO (fe_var 1) (fe_int)) (fa_cons (fe_ixO (fe_var 1) (fe_int)) (fa_cons (fe_ixO (fe_var 1) (fe_int)) (fa_cons (fe_ixO (fe_var 1) (fe_int)) (fa_cons (fe_ixO (fe_var 1) (fe_int)) (fa_cons (fe_ixO (fe_var 1) (fe_int)) (fa_cons (fe_ixO (fe_var 1) (fe_int)) (fa_cons (fe_ixO (fe_var 1) (fe_int)) (fa_cons (fe_ixO (fe_var 1) (fe_int)) (fa_cons (fe_ixO (fe_var 1) (fe_int)) (fa_cons (fe_ixO (fe_var 1) (fe_int)) (fa_cons (fe_ixO (fe_var 1) (fe_int)) (fa_cons (fe_ixO (fe_var 1) (fe_int)) (fa_cons (fe_ixO (fe_var 1) (fe_int)) (fa_cons (fe_ixO (fe_var 1) (fe_int)) (fa_cons (fe_ixO (fe_var 1) (fe_int)) (fa_cons (fe_ixO (fe_var 1) (fe_int)) (fa_cons (fe_ixO (fe_var 1) (fe_int)) (fa_cons (fe_ixO (fe_var 1) (fe_int)) (fa_cons (fe_ixO (fe_var 1) (fe_int)) (fa_cons (fe_ixO (fe_var 1) (fe_int)) (fa_cons (fe_ixO (fe_var 1) (fe_int)) (fa_cons (fe_ixO (fe_var 1) (fe_int)) (fa_cons (fe_ixO (fe_var 1) (fe_int)) (fa_cons (fe_ixO (fe_var 1) (fe_int)) (fa_cons (fe_ixO (fe_var 1) (fe_int)) (fa_cons (fe_ixO (fe_var 1) (fe_int)) (fa_cons (fe_ixO (fe_var 1) (fe_int)) (fa_cons (fe_ixO (fe_var 1) (fe_int)) (fa_cons (fe_ixO (fe_var 1) (fe_int)) (fa_cons (fe_ixO (fe_var 1) (fe_int)) (fa_cons (fe_ixO (fe_var 1) (fe_int)) (fa_cons (fe_ixO (fe_var 1) (fe_int)) (fa_cons (fe_ixO (fe_var 1) (fe_int)) (fa_cons (fe_ixO (fe_var 1) (fe_int)) (fa_cons (fe_ixO (fe_var 1) (fe_int)) (fa_cons (fe_ixO (fe_var 1) (fe_int)) (fa_cons (fe_ixO (fe_var 1) (fe_int)) (fa_cons (fe_ixO (fe_var 1) (fe_int)) (fa_cons (fe_ixO (fe_var 1) (fe_int)) (fa_cons (fe_ixO (fe_var 1) (fe_int)) (fa_cons (fe_ixO (fe_var 1) (fe_int)) (fa_cons (fe_ixO (fe_var 1) (fe_int)) (fa_cons (fe_ixO (fe_var 1) (fe_int)) (fa_cons (fe_ixO (fe_var 1) (fe_int)) (fa_cons (fe_ixO (fe_var 1) (fe_int)) (fa_cons (fe_ixO (fe_var 1) (fe_int)) (fa_cons (fe_ixO (fe_var 1) (fe_int)) (fa_cons (fe_ixO (fe_var 1) (fe_int)) (fa_cons (fe_ixO (fe_var 1) (fe_int)) (fa_cons (fe_ixO (fe_var 1) (fe_int)) (fa_cons (fe_ixO (fe_var 1) (fe_int)) (fa_cons (fe_ixO (fe_var 1) (fe_int)) (fa_cons (fe_ixO (fe_var 1) (fe_int)) (fa_cons (fe_ixO (fe_var 1) (fe_int)) (fa_nil))))))))))))))))))))))))))))))))))))))))))))))))))))))))))))))))))))))))))))))))))))))))))))))))))))))))))))))))))))))))))))) (fb_nil)
theorem c__law_over : CalD (gm P0 w0 K mg base) 6 (atG "_law_over" K) [] F__law_over := by
  obtain ⟨oc, od, osl, kV, doc, pm, an, cdv, ct, lk, hcd⟩ := h.says.def_ 17 d__law_over
  exact cal_def (ps := ["_law_count_here", "_law_c"]) lk hcd ⟨rfl, rfl, rfl, by decide +kernel, rfl, by decide +kernel, by decide +kernel⟩ (dbnd_plain (ps := ["_law_count_here", "_law_c"]) fun us hl => match us, hl with | [_, _], _ => rfl) (f__law_over h)
theorem n__law_over : Nam (gm P0 w0 K mg base) 6 "_law_over" [] F__law_over := ⟨⟨_, h.gl__law_over, DefAt.keep (h.says.def_ 17 d__law_over), c__law_over h⟩⟩
theorem f__law_left_out : FB (gm P0 w0 K mg base) { N := N__law_left_out, sc := defScope s__law_left_out, k := 6 } (defBody s__law_left_out) b__law_left_out := fb_cons (fs_if (ft_cmpO co_eq (fe_blt b_len ⟨rfl, h.fr_len⟩ (fa_cons (fe_var 1) (fa_nil))) (fe_int)) (fb_cons (fs_ret (fe_call (m_Pipeline h) ⟨by decide, rfl⟩ (fa_cons (fe_var 0) (fa_nil)))) (fb_nil)) (fb_nil)) (fb_cons (fs_if (ft_cmpO co_eq (fe_blt b_len ⟨rfl, h.fr_len⟩ (fa_cons (fe_var 1) (fa_nil))) (fe_int)) (fb_cons (fs_ret (fe_call (m_Pipeline h) ⟨by decide, rfl⟩ (fa_cons (fe_var 0) (fa_cons (fe_ixO (fe_var 1) (fe_int)) (fa_nil))))) (fb_nil)) (fb_nil)) (fb_cons (fs_if (ft_cmpO co_eq (fe_blt b_len ⟨rfl, h.fr_len⟩ (fa_cons (fe_var 1) (fa_nil))) (fe_int)) (fb_cons (fs_ret (fe_call (m_Pipeline h) ⟨by decide, rfl⟩ (fa_cons (fe_var 0) (fa_cons (fe_ixO (fe_var 1) (fe_int)) (fa_cons (fe_ixO (fe_var 1) (fe_int)) (fa_nil)))))) (fb_nil)) (fb_nil)) (fb_cons (fs_if (ft_cmpO co_eq (fe_blt b_len ⟨rfl, h.fr_len⟩ (fa_cons (fe_var 1) (fa_nil))) (fe_int)) (fb_cons (fs_ret (fe_call (m_Pipeline h) ⟨by decide, rfl⟩ (fa_cons (fe_var 0) (fa_cons (fe_ixO (fe_var 1) (fe_int)) (fa_cons (fe_ixO (fe_var 1) (fe_int)) (fa_cons (fe_ixO (fe_var 1) (fe_int)) (fa_nil))))))) (fb_nil)) (fb_nil)) (fb_cons (fs_if (ft_cmpO co_eq (fe_blt b_len ⟨rfl, h.fr_len⟩ (fa_cons (fe_var 1) (fa_nil))) (fe_int)) (fb_cons (fs_ret (fe_call (m_Pipeline h) ⟨by decide, rfl⟩ (fa_cons (fe_var 0) (fa_cons (fe_ixO (fe_var 1) (fe_int)) (fa_cons (fe_ixO (fe_var 1) (fe_int)) (fa_cons (fe_ixO (fe_var 1) (fe_int)) (fa_cons (fe_ixO (fe_var 1) (fe_int)) (fa_nil)))))))) (fb_nil)) (fb_nil)) (fb_cons (fs_if (ft_cmpO co_eq (fe_blt b_len ⟨rfl, h.fr_len⟩ (fa_cons (fe_var 1) (fa_nil))) (fe_int)) (fb_cons (fs_ret (fe_call (m_Pipeline h) ⟨by decide, rfl⟩ (fa_cons (fe_var 0) (fa_cons (fe_ixO (fe_var 1) (fe_int)) (fa_cons (fe_ixO (fe_var 1) (fe_int)) (fa_cons (fe_ixO (fe_var 1) (fe_int)) (fa_cons (fe_ixO (fe_var 1) (fe_int)) (fa_cons (fe_ixO (fe_var 1) (fe_int)) (fa_nil))))))))) (fb_nil)) (fb_nil)) (fb_cons (fs_if (ft_cmpO co_eq (fe_blt b_len ⟨rfl, h.fr_len⟩ (fa_cons (fe_var 1) (fa_nil))) (fe_int)) (fb_cons (fs_ret (fe_call (m_Pipeline h) ⟨by decide, rfl⟩ (fa_cons (fe_var 0) (fa_cons (fe_ixO (fe_var 1) (fe_int)) (fa_cons (fe_ixO (fe_var 1) (fe_int)) (fa_cons (fe_ixO (fe_var 1) (fe_int)) (fa_cons (fe_ixO (fe_var 1) (fe_int)) (fa_cons (fe_ixO (fe_var 1) (fe_int)) (fa_cons (fe_ixO (fe_var 1) (fe_int)) (fa_nil)))))))))) (fb_nil)) (fb_nil)) (fb_cons (fs_if (ft_cmpO co_eq (fe_blt b_len ⟨rfl, h.fr_len⟩ (fa_cons (fe_var 1) (fa_nil))) (fe_int)) (fb_cons (fs_ret (fe_call (m_Pipeline h) ⟨by decide, rfl⟩ (fa_cons (fe_var 0) (fa_cons (fe_ixO (fe_var 1) (fe_int)) (fa_cons (fe_ixO (fe_var 1) (fe_int)) (fa_cons (fe_ixO (fe_var 1) (fe_int)) (fa_cons (fe_ixO (fe_var 1) (fe_int)) (fa_cons (fe_ixO (fe_var 1) (fe_int)) (fa_cons (fe_ixO (fe_var 1) (fe_int)) (fa_cons (fe_ixO (fe_var 1) (fe_int)) (fa_nil))))))))))) (fb_nil)) (fb_nil)) (fb_cons (fs_if (ft_cmpO co_eq (fe_blt b_len ⟨rfl, h.fr_len⟩ (fa_cons (fe_var 1) (fa_nil))) (fe_int)) (fb_cons (fs_ret (fe_call (n__law_forty h) ⟨by decide, rfl⟩ (fa_cons (fe_var 0) (fa_cons (fe_var 1) (fa_nil))))) (fb_nil)) (fb_nil)) (fb_cons (fs_if (ft_cmpO co_eq (fe_blt b_len ⟨rfl, h.fr_len⟩ (fa_cons (fe_var 1) (fa_nil))) (fe_int)) (fb_cons (fs_ret (fe_call (n__law_full h) ⟨by decide, rfl⟩ (fa_cons (fe_var 0) (fa_cons (fe_var 1) (fa_nil))))) (fb_nil)) (fb_nil)) (fb_cons (fs_ret (fe_call (n__law_over h) ⟨by decide, rfl⟩ (fa_cons (fe_var 0) (fa_cons (fe_var 1) (fa_nil))))) (fb_nil)))))))))))
theorem c__law_left_out : CalD (gm P0 w0 K mg base) 7 (atG "_law_left_out" K) [] F__law_left_out := by
  obtain ⟨oc, od, osl, kV, doc, pm, an, cdv, ct, lk, hcd⟩ := h.says.def_ 18 d__law_left_out
  exact cal_def (ps := ["_law_count_here", "_law_c"]) lk hcd ⟨rfl, rfl, rfl, by decide +kernel, rfl, by decide +kernel, by decide +kernel⟩ (dbnd_plain (ps := ["_law_count_here", "_law_c"]) fun us hl => match us, hl with | [_, _], _ => rfl) (f__law_left_out h)
theorem n__law_left_out : Nam (gm P0 w0 K mg base) 7 "_law_left_out" [] F__law_left_out := ⟨⟨_, h.gl__law_left_out, DefAt.keep (h.says.def_ 18 d__law_left_out), c__law_left_out h⟩⟩
theorem f__law_same_rows : FB (gm P0 w0 K mg base) { N := N__law_same_rows, sc := defScope s__law_same_rows, k := 2 } (defBody s__law_same_rows) b__law_same_rows := fb_cons (fs_if (FW.ft (fw_or (ft_not (ft_val (fe_blt (b_isi h.kit) ⟨rfl, h.fr_isinstance⟩ (fa_cons (fe_var 0) (fa_cons (fe_ty (n := "tuple") (h.fr_tuple) rfl) (fa_nil)))))) (fw_one (ft_cmpO co_ne (fe_blt b_len ⟨rfl, h.fr_len⟩ (fa_cons (fe_var 0) (fa_nil))) (fe_blt b_len ⟨rfl, h.fr_len⟩ (fa_cons (fe_var 1) (fa_nil))))))) (fb_cons (fs_ret (fe_bl)) (fb_nil)) (fb_nil)) (fb_cons (fs_for (fk_rng1 ⟨rfl, h.fr_range⟩ (fa_cons (fe_blt b_len ⟨rfl, h.fr_len⟩ (fa_cons (fe_var 1) (fa_nil))) (fa_nil))) (fg_name 2) (fb_cons (fs_if (ft_not (ft_val (fe_call (n__law_same_row h) ⟨by decide, rfl⟩ (fa_cons (fe_ixO (fe_var 0) (fe_var 2)) (fa_cons (fe_ixO (fe_var 1) (fe_var 2)) (fa_nil)))))) (fb_cons (fs_ret (fe_bl)) (fb_nil)) (fb_nil)) (fb_nil))) (fb_cons (fs_ret (fe_bl)) (fb_nil)))
theorem c__law_same_rows : CalD (gm P0 w0 K mg base) 3 (atG "_law_same_rows" K) [] F__law_same_rows := by
  obtain ⟨oc, od, osl, kV, doc, pm, an, cdv, ct, lk, hcd⟩ := h.says.def_ 19 d__law_same_rows
  exact cal_def (ps := ["_law_told", "_law_due"]) lk hcd ⟨rfl, rfl, rfl, by decide +kernel, rfl, by decide +kernel, by decide +kernel⟩ (dbnd_plain (ps := ["_law_told", "_law_due"]) fun us hl => match us, hl with | [_, _], _ => rfl) (f__law_same_rows h)
theorem n__law_same_rows : Nam (gm P0 w0 K mg base) 3 "_law_same_rows" [] F__law_same_rows := ⟨⟨_, h.gl__law_same_rows, DefAt.keep (h.says.def_ 19 d__law_same_rows), c__law_same_rows h⟩⟩
theorem f_Net_slots : FB (gm P0 w0 K mg base) { N := N_Net_slots, sc := defScope s_Net_slots, k := 0 } (defBody s_Net_slots) b_Net_slots := fb_cons (fs_ret (fe_blt b_sum ⟨rfl, h.fr_sum⟩ (fa_cons (fe_lc (own := [("channel", 1)]) (fk_seq (fe_fld h.fl_channels (fe_var 0))) (fg_name 1) (fts_nil) (fe_ixO (fe_var 1) (fe_int))) (fa_nil)))) (fb_nil)
theorem rT_slots : PrpOkT (gm P0 w0 K mg base) 1 "slots" Tp_slots := ⟨fun cn F hc => by
  obtain ⟨oc, od, osl, kV, doc, pm, an, cdv, ct, lk, hcd⟩ := h.says.def_ 20 d_Net_slots
  have F0 : Fun K "slots" "Net.slots" s_Net_slots ((atR "property" "Net" "slots") K) _ := fun_mk (st := s_Net_slots) lk hcd (DefAt.keep (h.says.def_ 20 d_Net_slots))
  have hm := lookup_mem hc
  simp only [Tp_slots, List.mem_cons, List.not_mem_nil, or_false, Prod.mk.injEq] at hm
  rcases hm with ⟨rfl, rfl⟩
  · have e : atR "property" "Pipeline" "slots" K = atR "property" "Net" "slots" K := by unfold atR; rw [of_decide_eq_true h.sa_Pipeline_slots]
    exact ⟨He.cls_ok h.cl_Pipeline, _, _, _, (show PropOf K (He.ga K "Pipeline") "slots" _ (atR "property" "Net" "slots" K) from e ▸ bPrp_ok h.pr_Pipeline_slots), fn_def (g := (gm P0 w0 K mg base)) F0 ⟨rfl, rfl, rfl, by decide +kernel, rfl, by decide +kernel, by decide +kernel⟩ (f_Net_slots h), .all fun us hl => match us, hl with | [_], _ => rfl⟩⟩
theorem f__law_good : FB (gm P0 w0 K mg base) { N := N__law_good, sc := defScope s__law_good, k := 3 } (defBody s__law_good) b__law_good := fb_cons (fs_asg (fe_lst (fa_nil)) (fg_name 4)) (fb_cons (fs_for (fk_seq (fe_var 2)) (fg_name 5) (fb_cons (fs_expr (fe_mtL m_append (fe_var 4) (fa_cons (fe_tup (fa_cons (fe_ixO (fe_var 5) (fe_int)) (fa_cons (fe_ixO (fe_var 5) (fe_int)) (fa_cons (fe_if (ft_cmpO co_eq (fe_blt b_len ⟨rfl, h.fr_len⟩ (fa_cons (fe_var 5) (fa_nil))) (fe_int)) (fe_ixO (fe_var 5) (fe_int)) (fe_var 3)) (fa_nil))))) (fa_nil)) PySem.F.slot_list_append PySem.F.type_list_append)) (fb_nil))) (fb_cons (fs_if (ft_not (ft_val (fe_call (n__law_same_rows h) ⟨by decide, rfl⟩ (fa_cons (fe_fld h.fl_channels (fe_var 0)) (fa_cons (fe_bty b_tuple ⟨rfl, h.fr_tuple⟩ (fa_cons (fe_blt b_sorted' ⟨rfl, h.fr_sorted⟩ (fa_cons (fe_var 4) (fa_nil))) (fa_nil))) (fa_nil)))))) (fb_cons (fs_ret (fe_bl)) (fb_nil)) (fb_nil)) (fb_cons (fs_ret (fe_and (fe_call (n__law_same h) ⟨by decide, rfl⟩ (fa_cons (fe_fld h.fl_stages (fe_var 0)) (fa_cons (fe_var 1) (fa_nil)))) (fe_one (fe_call (n__law_same h) ⟨by decide, rfl⟩ (fa_cons (fe_propT (rT_slots h) ⟨by decide, rfl⟩ (fe_var 0)) (fa_cons (fe_blt b_sum ⟨rfl, h.fr_sum⟩ (fa_cons (fe_lc (own := [("_law_one", 5)]) (fk_seq (fe_var 4)) (fg_name 5) (fts_nil) (fe_ixO (fe_var 5) (fe_int))) (fa_nil))) (fa_nil))))))) (fb_nil))))
theorem c__law_good : CalD (gm P0 w0 K mg base) 4 (atG "_law_good" K) [] F__law_good := by
  obtain ⟨oc, od, osl, kV, doc, pm, an, cdv, ct, lk, hcd⟩ := h.says.def_ 21 d__law_good
  exact cal_def (ps := ["_law_net", "_law_count_here", "_law_given_here", "_law_extra_here"]) lk hcd ⟨rfl, rfl, rfl, by decide +kernel, rfl, by decide +kernel, by decide +kernel⟩ (dbnd_plain (ps := ["_law_net", "_law_count_here", "_law_given_here", "_law_extra_here"]) fun us hl => match us, hl with | [_, _, _, _], _ => rfl) (f__law_good h)
theorem n__law_good : Nam (gm P0 w0 K mg base) 4 "_law_good" [] F__law_good := ⟨⟨_, h.gl__law_good, DefAt.keep (h.says.def_ 21 d__law_good), c__law_good h⟩⟩
theorem f__law_answered : FB (gm P0 w0 K mg base) { N := N__law_answered, sc := defScope s__law_answered, k := 7 } (defBody s__law_answered) b__law_answered := fb_cons (fs_tryAs (i := 6) h.ca_WithinCallError (fb_cons (fs_if (ft_val (fe_var 3)) (fb_cons (fs_asg (fe_call (n__law_keyed h) ⟨by decide, rfl⟩ (fa_cons (fe_var 0) (fa_cons (fe_bty b_list ⟨rfl, h.fr_list⟩ (fa_cons (fe_var 1) (fa_nil))) (fa_cons (fe_var 2) (fa_nil))))) (fg_name 5)) (fb_nil)) (fb_cons (fs_asg (fe_call (n__law_left_out h) ⟨by decide, rfl⟩ (fa_cons (fe_var 0) (fa_cons (fe_bty b_list ⟨rfl, h.fr_list⟩ (fa_cons (fe_var 1) (fa_nil))) (fa_nil)))) (fg_name 5)) (fb_nil))) (fb_nil)) (fun a cv d x => fb_cons (fs_if (FW.ft (fw_or (ft_not (ft_val (fe_isX (i := 6) h.xkit rfl (fe_glob (hm := h.gl_InvalidNet)) (hg := ⟨rfl, h.fr_isinstance⟩)))) (fw_one (ft_not (ft_val (fe_isX (i := 6) h.xkit rfl (fe_ty (n := "ValueError") (h.fr_ValueError) rfl) (hg := ⟨rfl, h.fr_isinstance⟩))))))) (fb_cons (fs_ret (fe_bl)) (fb_nil)) (fb_nil)) (fb_cons (fs_if (ft_val (fe_isXT (i := 6) h.xkit rfl (fe_tup (fa_cons (fe_glob (hm := h.gl_Blocked)) (fa_cons (fe_glob (hm := h.gl_InvalidMove)) (fa_cons (fe_glob (hm := h.gl_InvalidState)) (fa_cons (fe_glob (hm := h.gl_InvalidText)) (fa_cons (fe_glob (hm := h.gl_NotFound)) (fa_nil))))))) (hg := ⟨rfl, h.fr_isinstance⟩))) (fb_cons (fs_ret (fe_bl)) (fb_nil)) (fb_nil)) (fb_cons (fs_ret (fe_and (fe_cmpO co_isnt (fe_var 4) (fe_non)) (fe_one (fe_callL (l__law_same_row h) (by decide) (fa_cons (fe_tup (fa_cons (fe_xf (i := 6) (h.xf_reason) rfl) (fa_cons (fe_xf (i := 6) (h.xf_position) rfl) (fa_nil)))) (fa_cons (fe_var 4) (fa_nil))))))) (fb_nil))))) (fb_cons (fs_ret (fe_and (fe_cmpO co_is (fe_var 4) (fe_non)) (fe_one (fe_call (n__law_good h) ⟨by decide, rfl⟩ (fa_cons (fe_var 5) (fa_cons (fe_var 0) (fa_cons (fe_var 1) (fa_cons (fe_var 2) (fa_nil))))))))) (fb_nil))
theorem c__law_answered : CalD (gm P0 w0 K mg base) 8 (atG "_law_answered" K) [] F__law_answered := by
  obtain ⟨oc, od, osl, kV, doc, pm, an, cdv, ct, lk, hcd⟩ := h.says.def_ 22 d__law_answered
  exact cal_def (ps := ["_law_count_here", "_law_given_here", "_law_extra_here", "_law_keyed_here", "_law_due"]) lk hcd ⟨rfl, rfl, rfl, by decide +kernel, rfl, by decide +kernel, by decide +kernel⟩ (dbnd_plain (ps := ["_law_count_here", "_law_given_here", "_law_extra_here", "_law_keyed_here", "_law_due"]) fun us hl => match us, hl with | [_, _, _, _, _], _ => rfl) (f__law_answered h)
theorem n__law_answered : Nam (gm P0 w0 K mg base) 8 "_law_answered" [] F__law_answered := ⟨⟨_, h.gl__law_answered, DefAt.keep (h.says.def_ 22 d__law_answered), c__law_answered h⟩⟩
theorem f__law_number : FB (gm P0 w0 K mg base) { N := N__law_number, sc := defScope s__law_number, k := 0 } (defBody s__law_number) b__law_number := fb_cons (fs_ret (fe_and (fe_blt (b_isi h.kit) ⟨rfl, h.fr_isinstance⟩ (fa_cons (fe_var 0) (fa_cons (fe_ty (n := "int") (h.fr_int) rfl) (fa_nil)))) (fe_and (fe_not (fe_blt (b_isi h.kit) ⟨rfl, h.fr_isinstance⟩ (fa_cons (fe_var 0) (fa_cons (fe_ty (n := "bool") (h.fr_bool) rfl) (fa_nil))))) (fe_one (fe_chainO co_le co_le (fe_var 1) (fe_var 0) (fe_var 2)))))) (fb_nil)
theorem c__law_number : CalD (gm P0 w0 K mg base) 1 (atG "_law_number" K) [] F__law_number := by
  obtain ⟨oc, od, osl, kV, doc, pm, an, cdv, ct, lk, hcd⟩ := h.says.def_ 23 d__law_number
  exact cal_def (ps := ["_law_thing", "_law_least", "_law_most"]) lk hcd ⟨rfl, rfl, rfl, by decide +kernel, rfl, by decide +kernel, by decide +kernel⟩ (dbnd_plain (ps := ["_law_thing", "_law_least", "_law_most"]) fun us hl => match us, hl with | [_, _, _], _ => rfl) (f__law_number h)
theorem n__law_number : Nam (gm P0 w0 K mg base) 1 "_law_number" [] F__law_number := ⟨⟨_, h.gl__law_number, DefAt.keep (h.says.def_ 23 d__law_number), c__law_number h⟩⟩
theorem f__law_channel_fault : FB (gm P0 w0 K mg base) { N := N__law_channel_fault, sc := defScope s__law_channel_fault, k := 1 } (defBody s__law_channel_fault) b__law_channel_fault := fb_cons (fs_asg (fe_ixO (fe_var 1) (fe_var 2)) (fg_name 3)) (fb_cons (fs_if (FW.ft (fw_or (ft_not (ft_val (fe_blt (b_isi h.kit) ⟨rfl, h.fr_isinstance⟩ (fa_cons (fe_var 3) (fa_cons (fe_ty (n := "tuple") (h.fr_tuple) rfl) (fa_nil)))))) (fw_or (ft_cmpO co_lt (fe_blt b_len ⟨rfl, h.fr_len⟩ (fa_cons (fe_var 3) (fa_nil))) (fe_int)) (fw_one (ft_cmpO co_gt (fe_blt b_len ⟨rfl, h.fr_len⟩ (fa_cons (fe_var 3) (fa_nil))) (fe_int)))))) (fb_cons (fs_ret (fe_str)) (fb_nil)) (fb_nil)) (fb_cons (fs_if (FW.ft (fw_or (ft_not (ft_val (fe_call (n__law_number h) ⟨by decide, rfl⟩ (fa_cons (fe_ixO (fe_var 3) (fe_int)) (fa_cons (fe_int) (fa_cons (fe_binO bo_sub (fe_var 0) (fe_int)) (fa_nil))))))) (fw_one (ft_not (ft_val (fe_call (n__law_number h) ⟨by decide, rfl⟩ (fa_cons (fe_ixO (fe_var 3) (fe_int)) (fa_cons (fe_int) (fa_cons (fe_binO bo_sub (fe_var 0) (fe_int)) (fa_nil)))))))))) (fb_cons (fs_ret (fe_str)) (fb_nil)) (fb_nil)) (fb_cons (fs_if (ft_cmpO co_eq (fe_ixO (fe_var 3) (fe_int)) (fe_ixO (fe_var 3) (fe_int))) (fb_cons (fs_ret (fe_str)) (fb_nil)) (fb_nil)) (fb_cons (fs_if (FW.ft (fw_and (ft_cmpO co_eq (fe_blt b_len ⟨rfl, h.fr_len⟩ (fa_cons (fe_var 3) (fa_nil))) (fe_int)) (fw_one (ft_not (ft_val (fe_call (n__law_number h) ⟨by decide, rfl⟩ (fa_cons (fe_ixO (fe_var 3) (fe_int)) (fa_cons (fe_int) (fa_cons (fe_int) (fa_nil)))))))))) (fb_cons (fs_ret (fe_str)) (fb_nil)) (fb_nil)) (fb_cons (fs_for (fk_rng1 ⟨rfl, h.fr_range⟩ (fa_cons (fe_var 2) (fa_nil))) (fg_name 4) (fb_cons (fs_if (FW.ft (fw_and (ft_cmpO co_eq (fe_ixO (fe_ixO (fe_var 1) (fe_var 4)) (fe_int)) (fe_ixO (fe_var 3) (fe_int))) (fw_one (ft_cmpO co_eq (fe_ixO (fe_ixO (fe_var 1) (fe_var 4)) (fe_int)) (fe_ixO (fe_var 3) (fe_int)))))) (fb_cons (fs_ret (fe_str)) (fb_nil)) (fb_nil)) (fb_nil))) (fb_cons (fs_ret (fe_str)) (fb_nil)))))))
theorem c__law_channel_fault : CalD (gm P0 w0 K mg base) 2 (atG "_law_channel_fault" K) [] F__law_channel_fault := by
  obtain ⟨oc, od, osl, kV, doc, pm, an, cdv, ct, lk, hcd⟩ := h.says.def_ 24 d__law_channel_fault
  exact cal_def (ps := ["_law_count_here", "_law_given_here", "_law_place"]) lk hcd ⟨rfl, rfl, rfl, by decide +kernel, rfl, by decide +kernel, by decide +kernel⟩ (dbnd_plain (ps := ["_law_count_here", "_law_given_here", "_law_place"]) fun us hl => match us, hl with | [_, _, _], _ => rfl) (f__law_channel_fault h)
theorem n__law_channel_fault : Nam (gm P0 w0 K mg base) 2 "_law_channel_fault" [] F__law_channel_fault := ⟨⟨_, h.gl__law_channel_fault, DefAt.keep (h.says.def_ 24 d__law_channel_fault), c__law_channel_fault h⟩⟩
theorem f__law_circle : FB (gm P0 w0 K mg base) { N := N__law_circle, sc := defScope s__law_circle, k := 0 } (defBody s__law_circle) b__law_circle := fb_cons (fs_asgC (fe_lc (own := [("_law_k", 3)]) (fk_rng1 ⟨rfl, h.fr_range⟩ (fa_cons (fe_var 0) (fa_nil))) (fg_name 3) (fts_nil) (fe_var 3)) (fg_name 2)) (fb_cons (fs_for (fk_rng1 ⟨rfl, h.fr_range⟩ (fa_cons (fe_var 0) (fa_nil))) (fg_name 4) (fb_cons (fs_asgC (fe_lc (own := [("_law_one", 6)]) (fk_seq (fe_var 1)) (fg_name 6) (fts_one (ft_cmpO co_in (fe_ixO (fe_var 6) (fe_int)) (fe_var 2))) (fe_ixO (fe_var 6) (fe_int))) (fg_name 5)) (fb_cons (fs_setLc (k := 7) (own := [("_law_k", 3)]) (fk_seq (fe_var 2)) (fg_name 3) (fts_one (ft_cmpO co_in (fe_var 3) (fe_var 5))) (fe_var 3)) (fb_cons (fs_if (ft_cmpO co_eq (fe_var 7) (fe_var 2)) (fb_cons (fs_break) (fb_nil)) (fb_nil)) (fb_cons (fs_asg (fe_var 7) (fg_name 2)) (fb_nil)))))) (fb_cons (fs_ret (fe_cmpO co_gt (fe_blt b_len ⟨rfl, h.fr_len⟩ (fa_cons (fe_var 2) (fa_nil))) (fe_int))) (fb_nil)))
theorem c__law_circle : CalD (gm P0 w0 K mg base) 1 (atG "_law_circle" K) [] F__law_circle := by
  obtain ⟨oc, od, osl, kV, doc, pm, an, cdv, ct, lk, hcd⟩ := h.says.def_ 25 d__law_circle
  exact cal_def (ps := ["_law_count_here", "_law_given_here"]) lk hcd ⟨rfl, rfl, rfl, by decide +kernel, rfl, by decide +kernel, by decide +kernel⟩ (dbnd_plain (ps := ["_law_count_here", "_law_given_here"]) fun us hl => match us, hl with | [_, _], _ => rfl) (f__law_circle h)
theorem n__law_circle : Nam (gm P0 w0 K mg base) 1 "_law_circle" [] F__law_circle := ⟨⟨_, h.gl__law_circle, DefAt.keep (h.says.def_ 25 d__law_circle), c__law_circle h⟩⟩
theorem f__law_fault : FB (gm P0 w0 K mg base) { N := N__law_fault, sc := defScope s__law_fault, k := 2 } (defBody s__law_fault) b__law_fault := fb_cons (fs_if (ft_not (ft_val (fe_call (n__law_number h) ⟨by decide, rfl⟩ (fa_cons (fe_var 0) (fa_cons (fe_int) (fa_cons (fe_int) (fa_nil))))))) (fb_cons (fs_ret (fe_tup (fa_cons (fe_str) (fa_cons (fe_non) (fa_nil))))) (fb_nil)) (fb_nil)) (fb_cons (fs_if (ft_cmpO co_gt (fe_blt b_len ⟨rfl, h.fr_len⟩ (fa_cons (fe_var 1) (fa_nil))) (fe_int)) (fb_cons (fs_ret (fe_tup (fa_cons (fe_str) (fa_cons (fe_non) (fa_nil))))) (fb_nil)) (fb_nil)) (fb_cons (fs_for (fk_rng1 ⟨rfl, h.fr_range⟩ (fa_cons (fe_blt b_len ⟨rfl, h.fr_len⟩ (fa_cons (fe_var 1) (fa_nil))) (fa_nil))) (fg_name 3) (fb_cons (fs_asg (fe_call (n__law_channel_fault h) ⟨by decide, rfl⟩ (fa_cons (fe_var 0) (fa_cons (fe_var 1) (fa_cons (fe_var 3) (fa_nil))))) (fg_name 4)) (fb_cons (fs_if (ft_cmpO co_ne (fe_var 4) (fe_str)) (fb_cons (fs_ret (fe_tup (fa_cons (fe_var 4) (fa_cons (fe_var 3) (fa_nil))))) (fb_nil)) (fb_nil)) (fb_nil)))) (fb_cons (fs_if (ft_not (ft_val (fe_call (n__law_number h) ⟨by decide, rfl⟩ (fa_cons (fe_var 2) (fa_cons (fe_int) (fa_cons (fe_int) (fa_nil))))))) (fb_cons (fs_ret (fe_tup (fa_cons (fe_str) (fa_cons (fe_non) (fa_nil))))) (fb_nil)) (fb_nil)) (fb_cons (fs_if (ft_val (fe_call (n__law_circle h) ⟨by decide, rfl⟩ (fa_cons (fe_var 0) (fa_cons (fe_var 1) (fa_nil))))) (fb_cons (fs_ret (fe_tup (fa_cons (fe_str) (fa_cons (fe_non) (fa_nil))))) (fb_nil)) (fb_nil)) (fb_cons (fs_ret (fe_non)) (fb_nil))))))
theorem c__law_fault : CalD (gm P0 w0 K mg base) 3 (atG "_law_fault" K) [] F__law_fault := by
  obtain ⟨oc, od, osl, kV, doc, pm, an, cdv, ct, lk, hcd⟩ := h.says.def_ 26 d__law_fault
  exact cal_def (ps := ["_law_count_here", "_law_given_here", "_law_extra_here"]) lk hcd ⟨rfl, rfl, rfl, by decide +kernel, rfl, by decide +kernel, by decide +kernel⟩ (dbnd_plain (ps := ["_law_count_here", "_law_given_here", "_law_extra_here"]) fun us hl => match us, hl with | [_, _, _], _ => rfl) (f__law_fault h)
theorem n__law_fault : Nam (gm P0 w0 K mg base) 3 "_law_fault" [] F__law_fault := ⟨⟨_, h.gl__law_fault, DefAt.keep (h.says.def_ 26 d__law_fault), c__law_fault h⟩⟩
theorem f__law_large : FB (gm P0 w0 K mg base) { N := N__law_large, sc := defScope s__law_large, k := 8 } (defBody s__law_large) b__law_large := fb_cons (fs_asg (fe_binO bo_add (fe_int) (fe_call (n__law_draw h) ⟨by decide, rfl⟩ (fa_cons (fe_var 0) (fa_cons (fe_int) (fa_nil))))) (fg_name 1)) (fb_cons (fs_asg (fe_binO bo_add (fe_int) (fe_call (n__law_draw h) ⟨by decide, rfl⟩ (fa_cons (fe_var 0) (fa_cons (fe_int) (fa_nil))))) (fg_name 2)) (fb_cons (fs_asg (fe_call (n__law_draw h) ⟨by decide, rfl⟩ (fa_cons (fe_var 0) (fa_cons (fe_int) (fa_nil)))) (fg_name 3)) (fb_cons (fs_asg (fe_lst (fa_nil)) (fg_name 4)) (fb_cons (fs_for (fk_seq (fe_call (n__law_pairs h) ⟨by decide, rfl⟩ (fa_cons (fe_var 1) (fa_nil)))) (fg_tup (fgs_cons (fg_name 5) (fgs_cons (fg_name 6) (fgs_nil)))) (fb_cons (fs_if (ft_cmpO co_eq (fe_binO bo_mod (fe_blt b_len ⟨rfl, h.fr_len⟩ (fa_cons (fe_var 4) (fa_nil))) (fe_int)) (fe_var 3)) (fb_cons (fs_expr (fe_mtL m_append (fe_var 4) (fa_cons (fe_tup (fa_cons (fe_var 5) (fa_cons (fe_var 6) (fa_nil)))) (fa_nil)) PySem.F.slot_list_append PySem.F.type_list_append)) (fb_nil)) (fb_cons (fs_expr (fe_mtL m_append (fe_var 4) (fa_cons (fe_tup (fa_cons (fe_var 5) (fa_cons (fe_var 6) (fa_cons (fe_binO bo_add (fe_int) (fe_binO bo_mod (fe_bty b_int ⟨rfl, h.fr_int⟩ (fa_cons (fe_binO bo_mul (fe_blt b_len ⟨rfl, h.fr_len⟩ (fa_cons (fe_var 4) (fa_nil))) (fe_var 2)) (fa_nil))) (fe_int))) (fa_nil))))) (fa_nil)) PySem.F.slot_list_append PySem.F.type_list_append)) (fb_nil))) (fb_nil))) (fb_cons (fs_if (ft_cmpO co_eq (fe_call (n__law_draw h) ⟨by decide, rfl⟩ (fa_cons (fe_var 0) (fa_cons (fe_int) (fa_nil)))) (fe_int)) (fb_cons (fs_asg (fe_revL (fe_var 4)) (fg_name 4)) (fb_nil)) (fb_nil)) (fb_cons (fs_if (ft_cmpO co_lt (fe_blt b_len ⟨rfl, h.fr_len⟩ (fa_cons (fe_var 4) (fa_nil))) (fe_int)) (fb_cons (fs_expr (fe_mtL m_append (fe_var 4) (fa_cons (fe_tup (fa_cons (fe_int) (fa_cons (fe_int) (fa_nil)))) (fa_nil)) PySem.F.slot_list_append PySem.F.type_list_append)) (fb_nil)) (fb_nil)) (fb_cons (fs_asg (fe_slice (fe_var 4) (fo_none) (fo_some (fe_int))) (fg_name 7)) (fb_cons (fs_if (ft_not (ft_val (fe_call (n__law_answered h) ⟨by decide, rfl⟩ (fa_cons (fe_var 1) (fa_cons (fe_var 7) (fa_cons (fe_int) (fa_cons (fe_bl) (fa_cons (fe_call (n__law_fault h) ⟨by decide, rfl⟩ (fa_cons (fe_var 1) (fa_cons (fe_var 7) (fa_cons (fe_int) (fa_nil))))) (fa_nil))))))))) (fb_cons (fs_ret (fe_bl)) (fb_nil)) (fb_nil)) (fb_cons (fs_asg (fe_call (n__law_draw h) ⟨by decide, rfl⟩ (fa_cons (fe_var 0) (fa_cons (fe_int) (fa_nil)))) (fg_name 8)) (fb_cons (fs_asg (fe_call (n__law_draw h) ⟨by decide, rfl⟩ (fa_cons (fe_var 0) (fa_cons (fe_int) (fa_nil)))) (fg_name 9)) (fb_cons (fs_asg (fe_ixO (fe_lst (fa_cons (fe_tup (fa_cons (fe_int) (fa_cons (fe_int) (fa_nil)))) (fa_cons (fe_tup (fa_cons (fe_int) (fa_cons (fe_int) (fa_cons (fe_int) (fa_nil))))) (fa_cons (fe_ixO (fe_var 7) (fe_binO bo_sub (fe_var 8) (fe_int))) (fa_cons (fe_tup (fa_cons (fe_int) (fa_cons (fe_int) (fa_cons (fe_int) (fa_nil))))) (fa_cons (fe_tup (fa_cons (fe_int) (fa_cons (fe_int) (fa_nil)))) (fa_cons (fe_lst (fa_cons (fe_int) (fa_cons (fe_int) (fa_nil)))) (fa_nil)))))))) (fe_var 9)) (fg_sub (fe_var 4) (fe_var 8))) (fb_cons (fs_asg (fe_slice (fe_var 4) (fo_none) (fo_some (fe_int))) (fg_name 7)) (fb_cons (fs_if (ft_not (ft_val (fe_call (n__law_answered h) ⟨by decide, rfl⟩ (fa_cons (fe_var 1) (fa_cons (fe_var 7) (fa_cons (fe_int) (fa_cons (fe_bl) (fa_cons (fe_call (n__law_fault h) ⟨by decide, rfl⟩ (fa_cons (fe_var 1) (fa_cons (fe_var 7) (fa_cons (fe_int) (fa_nil))))) (fa_nil))))))))) (fb_cons (fs_ret (fe_bl)) (fb_nil)) (fb_nil)) (fb_cons (fs_if (ft_cmpO co_eq (fe_call (n__law_draw h) ⟨by decide, rfl⟩ (fa_cons (fe_var 0) (fa_cons (fe_int) (fa_nil)))) (fe_int)) (fb_cons (fs_asg (fe_ixO (fe_lst (fa_cons (fe_int) (fa_cons (fe_int) (fa_cons (fe_bl) (fa_nil))))) (fe_call (n__law_draw h) ⟨by decide, rfl⟩ (fa_cons (fe_var 0) (fa_cons (fe_int) (fa_nil))))) (fg_name 1)) (fb_nil)) (fb_nil)) (fb_cons (fs_ret (fe_call (n__law_answered h) ⟨by decide, rfl⟩ (fa_cons (fe_var 1) (fa_cons (fe_var 4) (fa_cons (fe_int) (fa_cons (fe_bl) (fa_cons (fe_call (n__law_fault h) ⟨by decide, rfl⟩ (fa_cons (fe_var 1) (fa_cons (fe_var 4) (fa_cons (fe_int) (fa_nil))))) (fa_nil)))))))) (fb_nil))))))))))))))))
theorem c__law_large : CalD (gm P0 w0 K mg base) 9 (atG "_law_large" K) [] F__law_large := by
  obtain ⟨oc, od, osl, kV, doc, pm, an, cdv, ct, lk, hcd⟩ := h.says.def_ 27 d__law_large
  exact cal_def (ps := ["_law_bag_here"]) lk hcd ⟨rfl, rfl, rfl, by decide +kernel, rfl, by decide +kernel, by decide +kernel⟩ (dbnd_plain (ps := ["_law_bag_here"]) fun us hl => match us, hl with | [_], _ => rfl) (f__law_large h)
theorem n__law_large : Nam (gm P0 w0 K mg base) 9 "_law_large" [] F__law_large := ⟨⟨_, h.gl__law_large, DefAt.keep (h.says.def_ 27 d__law_large), c__law_large h⟩⟩
theorem f__law_order : FB (gm P0 w0 K mg base) { N := N__law_order, sc := defScope s__law_order, k := 1 } (defBody s__law_order) b__law_order := fb_cons (fs_setLc (k := 2) (own := [("_law_k", 3)]) (fk_rng1 ⟨rfl, h.fr_range⟩ (fa_cons (fe_var 1) (fa_nil))) (fg_name 3) (fts_nil) (fe_var 3)) (fb_cons (fs_asg (fe_lst (fa_nil)) (fg_name 4)) (fb_cons (fs_for (fk_rng1 ⟨rfl, h.fr_range⟩ (fa_cons (fe_var 1) (fa_nil))) (fg_name 3) (fb_cons (fs_expr (fe_mtL m_append (fe_var 4) (fa_cons (fe_mtL m_pop (fe_var 2) (fa_cons (fe_call (n__law_draw h) ⟨by decide, rfl⟩ (fa_cons (fe_var 0) (fa_cons (fe_blt b_len ⟨rfl, h.fr_len⟩ (fa_cons (fe_var 2) (fa_nil))) (fa_nil)))) (fa_nil)) PySem.F.slot_list_pop PySem.F.type_list_pop) (fa_nil)) PySem.F.slot_list_append PySem.F.type_list_append)) (fb_nil))) (fb_cons (fs_ret (fe_var 4)) (fb_nil))))
theorem c__law_order : CalD (gm P0 w0 K mg base) 2 (atG "_law_order" K) [] F__law_order := by
  obtain ⟨oc, od, osl, kV, doc, pm, an, cdv, ct, lk, hcd⟩ := h.says.def_ 28 d__law_order
  exact cal_def (ps := ["_law_bag_here", "_law_many"]) lk hcd ⟨rfl, rfl, rfl, by decide +kernel, rfl, by decide +kernel, by decide +kernel⟩ (dbnd_plain (ps := ["_law_bag_here", "_law_many"]) fun us hl => match us, hl with | [_, _], _ => rfl) (f__law_order h)
theorem n__law_order : Nam (gm P0 w0 K mg base) 2 "_law_order" [] F__law_order := ⟨⟨_, h.gl__law_order, DefAt.keep (h.says.def_ 28 d__law_order), c__law_order h⟩⟩
theorem f__law_round_trip : FB (gm P0 w0 K mg base) { N := N__law_round_trip, sc := defScope s__law_round_trip, k := 8 } (defBody s__law_round_trip) b__law_round_trip := fb_cons (fs_asg (fe_call (n__law_order h) ⟨by decide, rfl⟩ (fa_cons (fe_var 0) (fa_cons (fe_int) (fa_nil)))) (fg_name 1)) (fb_cons (fs_asg (fe_binO bo_add (fe_int) (fe_call (n__law_draw h) ⟨by decide, rfl⟩ (fa_cons (fe_var 0) (fa_cons (fe_int) (fa_nil))))) (fg_name 2)) (fb_cons (fs_setLc (k := 3) (own := [("_law_k", 4)]) (fk_rng1 ⟨rfl, h.fr_range⟩ (fa_cons (fe_int) (fa_nil))) (fg_name 4) (fts_nil) (fe_tup (fa_cons (fe_ixO (fe_var 1) (fe_var 4)) (fa_cons (fe_ixO (fe_var 1) (fe_binO bo_add (fe_var 4) (fe_int))) (fa_cons (fe_binO bo_add (fe_int) (fe_binO bo_mod (fe_bty b_int ⟨rfl, h.fr_int⟩ (fa_cons (fe_binO bo_mul (fe_var 4) (fe_var 2)) (fa_nil))) (fe_int))) (fa_nil)))))) (fb_cons (fs_asg (fe_call (n__law_draw h) ⟨by decide, rfl⟩ (fa_cons (fe_var 0) (fa_cons (fe_int) (fa_nil)))) (fg_name 5)) (fb_cons (fs_asg (fe_lst (fa_cons (fe_ixO (fe_var 1) (fe_int)) (fa_cons (fe_ixO (fe_var 1) (fe_int)) (fa_nil)))) (fg_name 6)) (fb_cons (fs_for (fk_seq (fe_lst (fa_cons (fe_tup (fa_cons (fe_ixO (fe_var 6) (fe_int)) (fa_cons (fe_ixO (fe_var 6) (fe_int)) (fa_nil)))) (fa_cons (fe_tup (fa_cons (fe_ixO (fe_var 6) (fe_int)) (fa_cons (fe_ixO (fe_var 6) (fe_int)) (fa_nil)))) (fa_nil))))) (fg_name 7) (fb_cons (fs_asg (fe_binO bo_add (fe_binO bo_add (fe_slice (fe_var 3) (fo_none) (fo_some (fe_var 5))) (fe_lst (fa_cons (fe_var 7) (fa_nil)))) (fe_slice (fe_var 3) (fo_some (fe_var 5)) (fo_none))) (fg_name 8)) (fb_cons (fs_if (ft_not (ft_val (fe_call (n__law_answered h) ⟨by decide, rfl⟩ (fa_cons (fe_int) (fa_cons (fe_var 8) (fa_cons (fe_int) (fa_cons (fe_bl) (fa_cons (fe_call (n__law_fault h) ⟨by decide, rfl⟩ (fa_cons (fe_int) (fa_cons (fe_var 8) (fa_cons (fe_int) (fa_nil))))) (fa_nil))))))))) (fb_cons (fs_ret (fe_bl)) (fb_nil)) (fb_nil)) (fb_nil)))) (fb_cons (fs_ret (fe_bl)) (fb_nil)))))))
theorem c__law_round_trip : CalD (gm P0 w0 K mg base) 9 (atG "_law_round_trip" K) [] F__law_round_trip := by
  obtain ⟨oc, od, osl, kV, doc, pm, an, cdv, ct, lk, hcd⟩ := h.says.def_ 29 d__law_round_trip
  exact cal_def (ps := ["_law_bag_here"]) lk hcd ⟨rfl, rfl, rfl, by decide +kernel, rfl, by decide +kernel, by decide +kernel⟩ (dbnd_plain (ps := ["_law_bag_here"]) fun us hl => match us, hl with | [_], _ => rfl) (f__law_round_trip h)
theorem n__law_round_trip : Nam (gm P0 w0 K mg base) 9 "_law_round_trip" [] F__law_round_trip := ⟨⟨_, h.gl__law_round_trip, DefAt.keep (h.says.def_ 29 d__law_round_trip), c__law_round_trip h⟩⟩
theorem f__law_count : FB (gm P0 w0 K mg base) { N := N__law_count, sc := defScope s__law_count, k := 1 } (defBody s__law_count) b__law_count := fb_cons (fs_asg (fe_call (n__law_draw h) ⟨by decide, rfl⟩ (fa_cons (fe_var 0) (fa_cons (fe_int) (fa_nil)))) (fg_name 1)) (fb_cons (fs_if (ft_cmpO co_eq (fe_var 1) (fe_int)) (fb_cons (fs_ret (fe_ixO (fe_lst (fa_cons (fe_int) (fa_cons (fe_neg (fe_int)) (fa_cons (fe_int) (fa_cons (fe_int) (fa_cons (fe_binO bo_pow (fe_int) (fe_int)) (fa_cons (fe_bl) (fa_cons (fe_bl) (fa_cons (fe_non) (fa_cons (fe_str) (fa_cons (fe_tup (fa_cons (fe_int) (fa_nil))) (fa_nil)))))))))))) (fe_call (n__law_draw h) ⟨by decide, rfl⟩ (fa_cons (fe_var 0) (fa_cons (fe_int) (fa_nil)))))) (fb_nil)) (fb_nil)) (fb_cons (fs_if (ft_cmpO co_eq (fe_var 1) (fe_int)) (fb_cons (fs_ret (fe_binO bo_add (fe_int) (fe_call (n__law_draw h) ⟨by decide, rfl⟩ (fa_cons (fe_var 0) (fa_cons (fe_int) (fa_nil)))))) (fb_nil)) (fb_nil)) (fb_cons (fs_ret (fe_binO bo_add (fe_int) (fe_call (n__law_draw h) ⟨by decide, rfl⟩ (fa_cons (fe_var 0) (fa_cons (fe_int) (fa_nil)))))) (fb_nil))))
theorem c__law_count : CalD (gm P0 w0 K mg base) 2 (atG "_law_count" K) [] F__law_count := by
  obtain ⟨oc, od, osl, kV, doc, pm, an, cdv, ct, lk, hcd⟩ := h.says.def_ 30 d__law_count
  exact cal_def (ps := ["_law_bag_here"]) lk hcd ⟨rfl, rfl, rfl, by decide +kernel, rfl, by decide +kernel, by decide +kernel⟩ (dbnd_plain (ps := ["_law_bag_here"]) fun us hl => match us, hl with | [_], _ => rfl) (f__law_count h)
theorem n__law_count : Nam (gm P0 w0 K mg base) 2 "_law_count" [] F__law_count := ⟨⟨_, h.gl__law_count, DefAt.keep (h.says.def_ 30 d__law_count), c__law_count h⟩⟩
theorem f__law_size : FB (gm P0 w0 K mg base) { N := N__law_size, sc := defScope s__law_size, k := 1 } (defBody s__law_size) b__law_size := fb_cons (fs_asg (fe_call (n__law_draw h) ⟨by decide, rfl⟩ (fa_cons (fe_var 0) (fa_cons (fe_int) (fa_nil)))) (fg_name 1)) (fb_cons (fs_if (ft_cmpO co_eq (fe_var 1) (fe_int)) (fb_cons (fs_ret (fe_binO bo_add (fe_int) (fe_call (n__law_draw h) ⟨by decide, rfl⟩ (fa_cons (fe_var 0) (fa_cons (fe_int) (fa_nil)))))) (fb_nil)) (fb_nil)) (fb_cons (fs_if (ft_cmpO co_eq (fe_var 1) (fe_int)) (fb_cons (fs_ret (fe_binO bo_sub (fe_int) (fe_binO bo_mul (fe_int) (fe_call (n__law_draw h) ⟨by decide, rfl⟩ (fa_cons (fe_var 0) (fa_cons (fe_int) (fa_nil))))))) (fb_nil)) (fb_nil)) (fb_cons (fs_ret (fe_binO bo_add (fe_int) (fe_call (n__law_draw h) ⟨by decide, rfl⟩ (fa_cons (fe_var 0) (fa_cons (fe_int) (fa_nil)))))) (fb_nil))))
theorem c__law_size : CalD (gm P0 w0 K mg base) 2 (atG "_law_size" K) [] F__law_size := by
  obtain ⟨oc, od, osl, kV, doc, pm, an, cdv, ct, lk, hcd⟩ := h.says.def_ 31 d__law_size
  exact cal_def (ps := ["_law_bag_here"]) lk hcd ⟨rfl, rfl, rfl, by decide +kernel, rfl, by decide +kernel, by decide +kernel⟩ (dbnd_plain (ps := ["_law_bag_here"]) fun us hl => match us, hl with | [_], _ => rfl) (f__law_size h)
theorem n__law_size : Nam (gm P0 w0 K mg base) 2 "_law_size" [] F__law_size := ⟨⟨_, h.gl__law_size, DefAt.keep (h.says.def_ 31 d__law_size), c__law_size h⟩⟩
theorem f__law_bent : FB (gm P0 w0 K mg base) { N := N__law_bent, sc := defScope s__law_bent, k := 1 } (defBody s__law_bent) b__law_bent := fb_cons (fs_asg (fe_call (n__law_draw h) ⟨by decide, rfl⟩ (fa_cons (fe_var 0) (fa_cons (fe_int) (fa_nil)))) (fg_name 4)) (fb_cons (fs_if (ft_cmpO co_lt (fe_var 4) (fe_int)) (fb_cons (fs_asg (fe_ixO (fe_lst (fa_cons (fe_int) (fa_cons (fe_int) (fa_cons (fe_neg (fe_int)) (fa_cons (fe_binO bo_pow (fe_int) (fe_int)) (fa_cons (fe_bl) (fa_cons (fe_non) (fa_cons (fe_str) (fa_cons (fe_tup (fa_cons (fe_int) (fa_nil))) (fa_nil)))))))))) (fe_var 4)) (fg_name 5)) (fb_cons (fs_ret (fe_tup (fa_cons (fe_var 2) (fa_cons (fe_var 3) (fa_cons (fe_var 5) (fa_nil)))))) (fb_nil))) (fb_nil)) (fb_cons (fs_if (ft_cmpO co_lt (fe_var 4) (fe_int)) (fb_cons (fs_asg (fe_ixO (fe_lst (fa_cons (fe_var 1) (fa_cons (fe_neg (fe_int)) (fa_cons (fe_binO bo_add (fe_var 1) (fe_int)) (fa_cons (fe_bl) (fa_cons (fe_non) (fa_cons (fe_str) (fa_nil)))))))) (fe_binO bo_sub (fe_var 4) (fe_int))) (fg_name 6)) (fb_cons (fs_ret (fe_if (ft_cmpO co_eq (fe_call (n__law_draw h) ⟨by decide, rfl⟩ (fa_cons (fe_var 0) (fa_cons (fe_int) (fa_nil)))) (fe_int)) (fe_tup (fa_cons (fe_var 6) (fa_cons (fe_var 3) (fa_nil)))) (fe_tup (fa_cons (fe_var 2) (fa_cons (fe_var 6) (fa_cons (fe_binO bo_mul (fe_int) (fe_call (n__law_draw h) ⟨by decide, rfl⟩ (fa_cons (fe_var 0) (fa_cons (fe_int) (fa_nil))))) (fa_nil))))))) (fb_nil))) (fb_nil)) (fb_cons (fs_if (ft_cmpO co_eq (fe_var 4) (fe_int)) (fb_cons (fs_ret (fe_tup (fa_cons (fe_var 2) (fa_cons (fe_var 2) (fa_cons (fe_binO bo_mul (fe_int) (fe_call (n__law_draw h) ⟨by decide, rfl⟩ (fa_cons (fe_var 0) (fa_cons (fe_int) (fa_nil))))) (fa_nil)))))) (fb_nil)) (fb_nil)) (fb_cons (fs_ret (fe_ixO (fe_lst (fa_cons (fe_lst (fa_cons (fe_var 2) (fa_cons (fe_var 3) (fa_nil)))) (fa_cons (fe_tup (fa_cons (fe_var 2) (fa_nil))) (fa_cons (fe_tup (fa_cons (fe_var 2) (fa_cons (fe_var 3) (fa_cons (fe_int) (fa_cons (fe_int) (fa_nil)))))) (fa_cons (fe_tup (fa_nil)) (fa_cons (fe_non) (fa_nil))))))) (fe_binO bo_sub (fe_var 4) (fe_int)))) (fb_nil)))))
theorem c__law_bent : CalD (gm P0 w0 K mg base) 2 (atG "_law_bent" K) [] F__law_bent := by
  obtain ⟨oc, od, osl, kV, doc, pm, an, cdv, ct, lk, hcd⟩ := h.says.def_ 32 d__law_bent
  exact cal_def (ps := ["_law_bag_here", "_law_count_here", "_law_a", "_law_b"]) lk hcd ⟨rfl, rfl, rfl, by decide +kernel, rfl, by decide +kernel, by decide +kernel⟩ (dbnd_plain (ps := ["_law_bag_here", "_law_count_here", "_law_a", "_law_b"]) fun us hl => match us, hl with | [_, _, _, _], _ => rfl) (f__law_bent h)
theorem n__law_bent : Nam (gm P0 w0 K mg base) 2 "_law_bent" [] F__law_bent := ⟨⟨_, h.gl__law_bent, DefAt.keep (h.says.def_ 32 d__law_bent), c__law_bent h⟩⟩
theorem f__law_given : FB (gm P0 w0 K mg base) { N := N__law_given, sc := defScope s__law_given, k := 2 } (defBody s__law_given) b__law_given := fb_cons (fs_asg (fe_call (n__law_draw h) ⟨by decide, rfl⟩ (fa_cons (fe_var 0) (fa_cons (fe_int) (fa_nil)))) (fg_name 2)) (fb_cons (fs_asg (fe_call (n__law_order h) ⟨by decide, rfl⟩ (fa_cons (fe_var 0) (fa_cons (fe_var 1) (fa_nil)))) (fg_name 3)) (fb_cons (fs_asg (fe_lst (fa_nil)) (fg_name 4)) (fb_cons (fs_asg (fe_lst (fa_nil)) (fg_name 5)) (fb_cons (fs_for (fk_rng1 ⟨rfl, h.fr_range⟩ (fa_cons (fe_call (n__law_draw h) ⟨by decide, rfl⟩ (fa_cons (fe_var 0) (fa_cons (fe_int) (fa_nil)))) (fa_nil))) (fg_name 6) (fb_cons (fs_asg (fe_int) (fg_name 7)) (fb_cons (fs_asg (fe_int) (fg_name 8)) (fb_cons (fs_if (ft_cmpO co_gt (fe_var 1) (fe_int)) (fb_cons (fs_asg (fe_call (n__law_draw h) ⟨by decide, rfl⟩ (fa_cons (fe_var 0) (fa_cons (fe_binO bo_sub (fe_var 1) (fe_int)) (fa_nil)))) (fg_name 9)) (fb_cons (fs_asg (fe_ixO (fe_var 3) (fe_var 9)) (fg_name 7)) (fb_cons (fs_asg (fe_ixO (fe_var 3) (fe_binO bo_add (fe_binO bo_add (fe_var 9) (fe_int)) (fe_call (n__law_draw h) ⟨by decide, rfl⟩ (fa_cons (fe_var 0) (fa_cons (fe_binO bo_sub (fe_binO bo_sub (fe_var 1) (fe_int)) (fe_var 9)) (fa_nil)))))) (fg_name 8)) (fb_nil)))) (fb_nil)) (fb_cons (fs_if (FW.ft (fw_and (ft_cmpO co_eq (fe_var 2) (fe_int)) (fw_one (ft_cmpO co_eq (fe_call (n__law_draw h) ⟨by decide, rfl⟩ (fa_cons (fe_var 0) (fa_cons (fe_int) (fa_nil)))) (fe_int))))) (fb_cons (fs_par 7 8 (fa_cons (fe_var 8) (fa_cons (fe_var 7) (fa_nil)))) (fb_nil)) (fb_nil)) (fb_cons (fs_asg (fe_tup (fa_cons (fe_var 7) (fa_cons (fe_var 8) (fa_nil)))) (fg_name 10)) (fb_cons (fs_if (ft_cmpO co_gt (fe_call (n__law_draw h) ⟨by decide, rfl⟩ (fa_cons (fe_var 0) (fa_cons (fe_int) (fa_nil)))) (fe_int)) (fb_cons (fs_asg (fe_tup (fa_cons (fe_var 7) (fa_cons (fe_var 8) (fa_cons (fe_call (n__law_size h) ⟨by decide, rfl⟩ (fa_cons (fe_var 0) (fa_nil))) (fa_nil))))) (fg_name 10)) (fb_nil)) (fb_nil)) (fb_cons (fs_if (ft_cmpO co_eq (fe_call (n__law_draw h) ⟨by decide, rfl⟩ (fa_cons (fe_var 0) (fa_cons (fe_int) (fa_nil)))) (fe_int)) (fb_cons (fs_asg (fe_call (n__law_bent h) ⟨by decide, rfl⟩ (fa_cons (fe_var 0) (fa_cons (fe_var 1) (fa_cons (fe_var 7) (fa_cons (fe_var 8) (fa_nil)))))) (fg_name 10)) (fb_nil)) (fb_nil)) (fb_cons (fs_if (FW.ft (fw_or (ft_cmpO co_lt (fe_var 2) (fe_int)) (fw_one (ft_cmpO co_notin (fe_tup (fa_cons (fe_var 7) (fa_cons (fe_var 8) (fa_nil)))) (fe_var 5))))) (fb_cons (fs_expr (fe_mtL m_append (fe_var 4) (fa_cons (fe_var 10) (fa_nil)) PySem.F.slot_list_append PySem.F.type_list_append)) (fb_cons (fs_expr (fe_mtL m_append (fe_var 5) (fa_cons (fe_tup (fa_cons (fe_var 7) (fa_cons (fe_var 8) (fa_nil)))) (fa_nil)) PySem.F.slot_list_append PySem.F.type_list_append)) (fb_nil))) (fb_nil)) (fb_nil)))))))))) (fb_cons (fs_ret (fe_var 4)) (fb_nil))))))
theorem c__law_given : CalD (gm P0 w0 K mg base) 3 (atG "_law_given" K) [] F__law_given := by
  obtain ⟨oc, od, osl, kV, doc, pm, an, cdv, ct, lk, hcd⟩ := h.says.def_ 33 d__law_given
  exact cal_def (ps := ["_law_bag_here", "_law_count_here"]) lk hcd ⟨rfl, rfl, rfl, by decide +kernel, rfl, by decide +kernel, by decide +kernel⟩ (dbnd_plain (ps := ["_law_bag_here", "_law_count_here"]) fun us hl => match us, hl with | [_, _], _ => rfl) (f__law_given h)
theorem n__law_given : Nam (gm P0 w0 K mg base) 3 "_law_given" [] F__law_given := ⟨⟨_, h.gl__law_given, DefAt.keep (h.says.def_ 33 d__law_given), c__law_given h⟩⟩
theorem f__law_extra : FB (gm P0 w0 K mg base) { N := N__law_extra, sc := defScope s__law_extra, k := 1 } (defBody s__law_extra) b__law_extra := fb_cons (fs_asg (fe_call (n__law_draw h) ⟨by decide, rfl⟩ (fa_cons (fe_var 0) (fa_cons (fe_int) (fa_nil)))) (fg_name 1)) (fb_cons (fs_if (ft_cmpO co_eq (fe_var 1) (fe_int)) (fb_cons (fs_ret (fe_ixO (fe_lst (fa_cons (fe_int) (fa_cons (fe_neg (fe_int)) (fa_cons (fe_int) (fa_cons (fe_binO bo_pow (fe_int) (fe_int)) (fa_cons (fe_bl) (fa_cons (fe_non) (fa_cons (fe_str) (fa_cons (fe_tup (fa_cons (fe_int) (fa_nil))) (fa_nil)))))))))) (fe_call (n__law_draw h) ⟨by decide, rfl⟩ (fa_cons (fe_var 0) (fa_cons (fe_int) (fa_nil)))))) (fb_nil)) (fb_nil)) (fb_cons (fs_if (ft_cmpO co_eq (fe_var 1) (fe_int)) (fb_cons (fs_ret (fe_ixO (fe_lst (fa_cons (fe_int) (fa_cons (fe_int) (fa_cons (fe_int) (fa_nil))))) (fe_call (n__law_draw h) ⟨by decide, rfl⟩ (fa_cons (fe_var 0) (fa_cons (fe_int) (fa_nil)))))) (fb_nil)) (fb_nil)) (fb_cons (fs_ret (fe_binO bo_add (fe_int) (fe_call (n__law_draw h) ⟨by decide, rfl⟩ (fa_cons (fe_var 0) (fa_cons (fe_int) (fa_nil)))))) (fb_nil))))
theorem c__law_extra : CalD (gm P0 w0 K mg base) 2 (atG "_law_extra" K) [] F__law_extra := by
  obtain ⟨oc, od, osl, kV, doc, pm, an, cdv, ct, lk, hcd⟩ := h.says.def_ 34 d__law_extra
  exact cal_def (ps := ["_law_bag_here"]) lk hcd ⟨rfl, rfl, rfl, by decide +kernel, rfl, by decide +kernel, by decide +kernel⟩ (dbnd_plain (ps := ["_law_bag_here"]) fun us hl => match us, hl with | [_], _ => rfl) (f__law_extra h)
theorem n__law_extra : Nam (gm P0 w0 K mg base) 2 "_law_extra" [] F__law_extra := ⟨⟨_, h.gl__law_extra, DefAt.keep (h.says.def_ 34 d__law_extra), c__law_extra h⟩⟩
theorem f__law_small : FB (gm P0 w0 K mg base) { N := N__law_small, sc := defScope s__law_small, k := 8 } (defBody s__law_small) b__law_small := fb_cons (fs_asg (fe_call (n__law_count h) ⟨by decide, rfl⟩ (fa_cons (fe_var 0) (fa_nil))) (fg_name 1)) (fb_cons (fs_asg (fe_if (ft_val (fe_call (n__law_number h) ⟨by decide, rfl⟩ (fa_cons (fe_var 1) (fa_cons (fe_int) (fa_cons (fe_int) (fa_nil)))))) (fe_var 1) (fe_int)) (fg_name 2)) (fb_cons (fs_asg (fe_call (n__law_given h) ⟨by decide, rfl⟩ (fa_cons (fe_var 0) (fa_cons (fe_var 2) (fa_nil)))) (fg_name 3)) (fb_cons (fs_asg (fe_cmpO co_eq (fe_call (n__law_draw h) ⟨by decide, rfl⟩ (fa_cons (fe_var 0) (fa_cons (fe_int) (fa_nil)))) (fe_int)) (fg_name 4)) (fb_cons (fs_asg (fe_int) (fg_name 5)) (fb_cons (fs_if (ft_val (fe_var 4)) (fb_cons (fs_asg (fe_call (n__law_extra h) ⟨by decide, rfl⟩ (fa_cons (fe_var 0) (fa_nil))) (fg_name 5)) (fb_nil)) (fb_nil)) (fb_cons (fs_for (fk_rng1 ⟨rfl, h.fr_range⟩ (fa_cons (fe_int) (fa_nil))) (fg_name 6) (fb_cons (fs_asg (fe_call (n__law_fault h) ⟨by decide, rfl⟩ (fa_cons (fe_var 1) (fa_cons (fe_var 3) (fa_cons (fe_var 5) (fa_nil))))) (fg_name 7)) (fb_cons (fs_if (ft_not (ft_val (fe_call (n__law_answered h) ⟨by decide, rfl⟩ (fa_cons (fe_var 1) (fa_cons (fe_var 3) (fa_cons (fe_var 5) (fa_cons (fe_var 4) (fa_cons (fe_var 7) (fa_nil))))))))) (fb_cons (fs_ret (fe_bl)) (fb_nil)) (fb_nil)) (fb_cons (fs_if (ft_cmpO co_is (fe_var 7) (fe_non)) (fb_cons (fs_ret (fe_bl)) (fb_nil)) (fb_nil)) (fb_cons (fs_if (ft_cmpO co_eq (fe_ixO (fe_var 7) (fe_int)) (fe_str)) (fb_cons (fs_asg (fe_var 2) (fg_name 1)) (fb_nil)) (fb_cons (fs_if (ft_cmpO co_eq (fe_ixO (fe_var 7) (fe_int)) (fe_str)) (fb_cons (fs_asg (fe_slice (fe_var 3) (fo_none) (fo_some (fe_neg (fe_int)))) (fg_name 3)) (fb_nil)) (fb_cons (fs_if (ft_cmpO co_is (fe_ixO (fe_var 7) (fe_int)) (fe_non)) (fb_cons (fs_asg (fe_int) (fg_name 5)) (fb_nil)) (fb_cons (fs_asg (fe_binO bo_add (fe_slice (fe_var 3) (fo_none) (fo_some (fe_ixO (fe_var 7) (fe_int)))) (fe_slice (fe_var 3) (fo_some (fe_binO bo_add (fe_ixO (fe_var 7) (fe_int)) (fe_int))) (fo_none))) (fg_name 3)) (fb_nil))) (fb_nil))) (fb_nil))) (fb_nil)))))) (fb_cons (fs_ret (fe_bl)) (fb_nil))))))))
theorem c__law_small : CalD (gm P0 w0 K mg base) 9 (atG "_law_small" K) [] F__law_small := by
  obtain ⟨oc, od, osl, kV, doc, pm, an, cdv, ct, lk, hcd⟩ := h.says.def_ 35 d__law_small
  exact cal_def (ps := ["_law_bag_here"]) lk hcd ⟨rfl, rfl, rfl, by decide +kernel, rfl, by decide +kernel, by decide +kernel⟩ (dbnd_plain (ps := ["_law_bag_here"]) fun us hl => match us, hl with | [_], _ => rfl) (f__law_small h)
theorem n__law_small : Nam (gm P0 w0 K mg base) 9 "_law_small" [] F__law_small := ⟨⟨_, h.gl__law_small, DefAt.keep (h.says.def_ 35 d__law_small), c__law_small h⟩⟩
theorem f_law : FB (gm P0 w0 K mg base) { N := N_law, sc := defScope s_law, k := 9 } (defBody s_law) b_law := fb_cons (fs_asg (fe_mkX (x_InvalidNet h) ⟨by decide, rfl⟩ (fa_cons (fe_str) (fa_cons (fe_int) (fa_nil)))) (fg_name 1)) (fb_cons (fs_if (ft_not (ft_val (fe_call (n__law_same_row h) ⟨by decide, rfl⟩ (fa_cons (fe_tup (fa_cons (fe_xoF (XFldOk.un h.xf_reason) (fe_var 1)) (fa_cons (fe_xoF (XFldOk.un h.xf_position) (fe_var 1)) (fa_nil)))) (fa_cons (fe_tup (fa_cons (fe_str) (fa_cons (fe_int) (fa_nil)))) (fa_nil)))))) (fb_cons (fs_ret (fe_bl)) (fb_nil)) (fb_nil)) (fb_cons (fs_for (fk_rng1 ⟨rfl, h.fr_range⟩ (fa_cons (fe_blt b_max2 ⟨rfl, h.fr_max⟩ (fa_cons (fe_int) (fa_cons (fe_blt b_min2 ⟨rfl, h.fr_min⟩ (fa_cons (fe_blt b_len ⟨rfl, h.fr_len⟩ (fa_cons (fe_var 0) (fa_nil))) (fa_cons (fe_int) (fa_nil)))) (fa_nil)))) (fa_nil))) (fg_name 2) (fb_cons (fs_asg (fe_call (n__law_bag h) ⟨by decide, rfl⟩ (fa_cons (fe_var 0) (fa_cons (fe_var 2) (fa_nil)))) (fg_name 3)) (fb_cons (fs_asg (fe_call (n__law_draw h) ⟨by decide, rfl⟩ (fa_cons (fe_var 3) (fa_cons (fe_int) (fa_nil)))) (fg_name 4)) (fb_cons (fs_if (ft_cmpO co_eq (fe_var 4) (fe_int)) (fb_cons (fs_asg (fe_call (n__law_large h) ⟨by decide, rfl⟩ (fa_cons (fe_var 3) (fa_nil))) (fg_name 5)) (fb_nil)) (fb_cons (fs_if (ft_cmpO co_eq (fe_var 4) (fe_int)) (fb_cons (fs_asg (fe_call (n__law_round_trip h) ⟨by decide, rfl⟩ (fa_cons (fe_var 3) (fa_nil))) (fg_name 5)) (fb_nil)) (fb_cons (fs_asg (fe_call (n__law_small h) ⟨by decide, rfl⟩ (fa_cons (fe_var 3) (fa_nil))) (fg_name 5)) (fb_nil))) (fb_nil))) (fb_cons (fs_if (ft_not (ft_val (fe_var 5))) (fb_cons (fs_ret (fe_bl)) (fb_nil)) (fb_nil)) (fb_nil)))))) (fb_cons (fs_ret (fe_bl)) (fb_nil))))
end
end FI.K00
set_option maxRecDepth 100000
set_option maxHeartbeats 0
namespace FI.K00
open PySem L2 PySem.Spec PyProof.Rows FI
theorem run (w : World) : HandSHeadRun.RunEq R (PySem.W.view R.prog [47]) hk ob 8000 names w := by
  intro os
  kernel_rfl
end FI.K00
set_option maxRecDepth 100000
set_option maxHeartbeats 0
namespace FI.K00
open PySem L2 PySem.Spec PyProof.Rows FI
theorem law_fn {P0 : Program} {w0 : World} {K : Fr} {mg : Str → Option Value} (h : Hs P0 K mg) {fa : Addr} (hfa : mg "law" = some (.ref fa)) :
    ∃ fd : FuncData, (∀ (s : Shared) (u : Value), BindsTo s fd ⟨[u], []⟩ [(("_law_script" : Str), u)]) ∧ ∀ base : Heap, FnOk P0 w0 K mg base (L2N.CX P0 w0) (9 + 1) fa fd ["_law_script"] (spD (gm P0 w0 K mg base) 1 (mkFn 1 N_law.length b_law)) := by
  have e := hfa.symm.trans h.gl_law
  cases e
  obtain ⟨oc, od, osl, kV, doc, pm, an, cdv, ct, lk, hcd⟩ := h.says.def_ 36 d_law
  have F : Fun K "law" "law" s_law (He.ga K "law") _ := fun_mk (st := s_law) lk hcd (DefAt.keep (h.says.def_ 36 d_law))
  refine ⟨PySem.W.fnOf "law" "law" (defArgs s_law) (defBody s_law) (defScope s_law) .none kV doc pm an cdv ct, fun s u => .of_eq rfl, fun base => ?_⟩
  exact fn_def (g := gm P0 w0 K mg base) F ⟨rfl, rfl, rfl, by decide +kernel, rfl, by decide +kernel, by decide +kernel⟩ (f_law h)
end FI.K00
section
open PySem PySem.W PySem.Calls PyProof.Rows
theorem FI.K00.holds_of (pure : ∀ ns : List Int, ns.length ≤ 63 → ∃ G', FI.K00.F_law [.kl (ns.map .int)] [] = some (.val (.bl true), G')) : PySem.Challenge.rw_withincall_k00_pipelines_checked.Holds := by
  w_on; o_law
  refine HandSHeadRun.head_any (r := OpenLaw.row PySem.Challenge.rw_withincall_k00_pipelines_checked) (q := view (OpenLaw.row PySem.Challenge.rw_withincall_k00_pipelines_checked).prog [47]) (H := FI.K00.hk) (ob := FI.K00.ob) (M := 8000) (loose := FI.K00.names) (d := HandSHeadRun.topDef (OpenLaw.row PySem.Challenge.rw_withincall_k00_pipelines_checked).prog 47) (kwd := []) FI.K00.ob_eq
    (by kernel_rfl) (fun s => by kernel_rfl) FI.K00.run (by kernel_rfl) (by kernel_rfl) (by kernel_rfl) (by rfl) (by first | assumption | decide +kernel) (by decide +kernel) ⟨rfl, rfl, rfl, rfl, rfl, by decide +kernel⟩ ?hw ?hc
  case hw => w_witness2
  case hc =>
    refine FI.walk_ofW (l := PySem.Challenge.rw_withincall_k00_pipelines_checked) (n := 63) (k := 10) (x := "_law_script") rfl (by decide) (by kernel_rfl) ⟨rfl, by decide, by decide⟩ ?F
    intro w mg fa h Y G hmg0
    obtain ⟨K, KX, c⟩ := Y
    have hmg : mg ("law" : PySem.Str) = some (.ref fa) := by
      have e : (HandSHeadRun.topDef (OpenLaw.row PySem.Challenge.rw_withincall_k00_pipelines_checked).prog 47).name = ("law" : PySem.Str) := by kernel_rfl
      rw [← e]
      exact hmg0
    obtain ⟨fd, hb, hF⟩ := FI.K00.law_fn (w0 := w) (P0 := PySem.Challenge.rw_withincall_k00_pipelines_checked.prog) ⟨by kernel_rfl, by kernel_rfl, ⟨h, KX, G⟩, c⟩ hmg
    exact ⟨K, fd, _, KX, hb, fun H a ns hl hO hS base => FI.sp_law (g := FI.K00.gm _ w K mg base) (F := FI.mkFn 1 FI.K00.N_law.length FI.K00.b_law) hO hS (pure ns hl), hF⟩
end
set_option maxRecDepth 100000
set_option maxHeartbeats 2000000
namespace FI
open PySem L2
def we {α : Type} (m : Option (Rs α × Hh)) (Q : Rs α → Hh → Prop) : Prop := ∃ r G, m = some (r, G) ∧ Q r G
def ws (m : Sm) (Q : Fl → Sg → Hh → Prop) : Prop := ∃ fl gs G, m = some (fl, gs, G) ∧ Q fl gs G
def onR {α : Type} (f : α → Hh → Prop) (x : Exc → Hh → Prop) : Rs α → Hh → Prop
  | .val a, G => f a G
  | .exc e, G => x e G
def onFl (n : Sg → Hh → Prop) (R : Fl → Sg → Hh → Prop) : Fl → Sg → Hh → Prop
  | .nx, gs, G => n gs G
  | fl, gs, G => R fl gs G
def asB (f : Bool → Hh → Prop) : D → Hh → Prop
  | .bl b, G => f b G
  | _, _ => False
def asO {α : Type} (o : Option α) (f : α → Prop) : Prop := match o with
  | some a => f a
  | none => False
section
variable {α β : Type} {Q : Rs α → Hh → Prop} {R : Fl → Sg → Hh → Prop} {f : α → Hh → Prop} {x : Exc → Hh → Prop} {n : Sg → Hh → Prop} {g : Bool → Hh → Prop}
@[simp] theorem onR_val {a : α} {G : Hh} : onR f x (.val a) G ↔ f a G := .rfl
@[simp] theorem onR_exc {e : Exc} {G : Hh} : onR f x (.exc e) G ↔ x e G := .rfl
@[simp] theorem onFl_nx {gs : Sg} {G : Hh} : onFl n R .nx gs G ↔ n gs G := .rfl
@[simp] theorem onFl_rt {d : D} {gs : Sg} {G : Hh} : onFl n R (.rt d) gs G ↔ R (.rt d) gs G := .rfl
@[simp] theorem onFl_bk {gs : Sg} {G : Hh} : onFl n R .bk gs G ↔ R .bk gs G := .rfl
@[simp] theorem onFl_ct {gs : Sg} {G : Hh} : onFl n R .ct gs G ↔ R .ct gs G := .rfl
@[simp] theorem onFl_ex {e : Exc} {gs : Sg} {G : Hh} : onFl n R (.ex e) gs G ↔ R (.ex e) gs G := .rfl
@[simp] theorem asB_bl {b : Bool} {G : Hh} : asB g (.bl b) G ↔ g b G := .rfl
@[simp] theorem asO_some {a : β} {k : β → Prop} : asO (some a) k ↔ k a := .rfl
@[simp] theorem asO_none {k : β → Prop} : asO none k ↔ False := .rfl
@[simp] theorem we_some (r : Rs α) (G : Hh) : we (some (r, G)) Q ↔ Q r G := ⟨fun ⟨_, _, e, q⟩ => by cases e; exact q, fun q => ⟨_, _, rfl, q⟩⟩
@[simp] theorem we_none : we (none : Option (Rs α × Hh)) Q ↔ False := ⟨fun ⟨_, _, e, _⟩ => (by cases e), False.elim⟩
@[simp] theorem ws_some (fl : Fl) (gs : Sg) (G : Hh) : ws (some (fl, gs, G)) R ↔ R fl gs G := ⟨fun ⟨_, _, _, e, q⟩ => by cases e; exact q, fun q => ⟨_, _, _, rfl, q⟩⟩
@[simp] theorem ws_none : ws none R ↔ False := ⟨fun ⟨_, _, _, e, _⟩ => (by cases e), False.elim⟩
theorem we_mono {m : Option (Rs α × Hh)} {Q' : Rs α → Hh → Prop} (h : we m Q') (k : ∀ r G, Q' r G → Q r G) : we m Q := let ⟨r, G, e, q⟩ := h; ⟨r, G, e, k r G q⟩
theorem ws_mono {m : Sm} {R' : Fl → Sg → Hh → Prop} (h : ws m R') (k : ∀ fl gs G, R' fl gs G → R fl gs G) : ws m R := let ⟨fl, gs, G, e, q⟩ := h; ⟨fl, gs, G, e, k fl gs G q⟩
theorem we_cong {m : Option (Rs α × Hh)} {Q' : Rs α → Hh → Prop} (k : ∀ r G, Q' r G ↔ Q r G) : we m Q' ↔ we m Q := ⟨fun h => we_mono h fun r G => (k r G).mp, fun h => we_mono h fun r G => (k r G).mpr⟩
theorem we_eq {m : Option (Rs α × Hh)} {r : Rs α} {G : Hh} (h : we m fun r' G' => r' = r ∧ G' = G) : m = some (r, G) := by
  obtain ⟨_, _, e, rfl, rfl⟩ := h
  exact e
theorem we_of {m : Option (Rs α × Hh)} {r : Rs α} {G : Hh} (h : m = some (r, G)) (q : Q r G) : we m Q := ⟨r, G, h, q⟩
@[simp] theorem we_bnd {m : Option (Rs β × Hh)} {k : β → Mm α} : we (bnd m k) Q ↔ we m (onR (fun a G => we (k a G) Q) fun e G => Q (.exc e) G) := by
  cases m with
  | none => simp [bnd]
  | some p =>
    obtain ⟨r, G⟩ := p
    cases r <;> simp [bnd]
@[simp] theorem ws_onE {m : Option (Rs α × Hh)} {gs : Sg} {k : α → Hh → Sm} : ws (onE m gs k) R ↔ we m (onR (fun a G => ws (k a G) R) fun e G => R (.ex e) gs G) := by
  cases m with
  | none => simp [onE]
  | some p =>
    obtain ⟨r, G⟩ := p
    cases r <;> simp [onE]
@[simp] theorem ws_bSeq {f h : SS} {gs : Sg} {G : Hh} : ws (bSeq f h gs G) R ↔ ws (f gs G) (onFl (fun gs1 G1 => ws (h gs1 G1) R) R) := by
  unfold bSeq
  cases f gs G with
  | none => simp
  | some p =>
    obtain ⟨fl, gs1, G1⟩ := p
    cases fl <;> simp
@[simp] theorem ws_bNil {gs : Sg} {G : Hh} : ws (bNil gs G) R ↔ R .nx gs G := by simp [bNil]
theorem we_sub {m : Option (Rs α × Hh)} {f f' : α → Hh → Prop} {x : Exc → Hh → Prop} (k : ∀ a G, f a G ↔ f' a G) : we m (onR f x) ↔ we m (onR f' x) := we_cong fun r G => by
  cases r with
  | val a => exact k a G
  | exc e => exact .rfl
@[simp] theorem ws_sAsg {f : SE} {t : GT} {gs : Sg} {G : Hh} : ws (sAsg f t gs G) R ↔ we (f gs G) (onR (fun d G1 => asO (t d gs G1) fun p => R .nx p.1 p.2) fun e G1 => R (.ex e) gs G1) := by
  unfold sAsg
  rw [ws_onE]
  refine we_sub fun d G1 => ?_
  cases t d gs G1 <;> simp
@[simp] theorem ws_sRet {f : SE} {gs : Sg} {G : Hh} : ws (sRet f gs G) R ↔ we (f gs G) (onR (fun d G1 => R (.rt d) gs G1) fun e G1 => R (.ex e) gs G1) := by
  unfold sRet; simp
@[simp] theorem ws_sRetN {gs : Sg} {G : Hh} : ws (sRetN gs G) R ↔ R (.rt .non) gs G := by unfold sRetN; simp
@[simp] theorem ws_sDrop {f : SE} {gs : Sg} {G : Hh} : ws (sDrop f gs G) R ↔ we (f gs G) (onR (fun d G1 => R .nx gs G1) fun e G1 => R (.ex e) gs G1) := by
  unfold sDrop; simp
@[simp] theorem ws_sIf {c : ST} {f h : SS} {gs : Sg} {G : Hh} : ws (sIf c f h gs G) R ↔ we (c gs G) (onR (fun b G1 => if b = true then ws (f gs G1) R else ws (h gs G1) R) fun e G1 => R (.ex e) gs G1) := by
  unfold sIf; rw [ws_onE]
  exact we_sub fun b G1 => by cases b <;> simp
@[simp] theorem ws_sPass {gs : Sg} {G : Hh} : ws (sPass gs G) R ↔ R .nx gs G := by simp [sPass]
@[simp] theorem ws_sBreak {gs : Sg} {G : Hh} : ws (sBreak gs G) R ↔ R .bk gs G := by simp [sBreak]
@[simp] theorem ws_sCont {gs : Sg} {G : Hh} : ws (sCont gs G) R ↔ R .ct gs G := by simp [sCont]
end
section
variable {Q : Rs D → Hh → Prop} {B : Rs Bool → Hh → Prop} {A : Rs (List D) → Hh → Prop} {gs : Sg} {G : Hh}
@[simp] theorem we_eC {d : D} : we (eC d gs G) Q ↔ Q (.val d) G := by simp [eC]
theorem we_eVar {i : Nat} : we (eVar i gs G) Q ↔ asO (gs[i]?) fun o => asO o fun d => Q (.val d) G := by
  unfold eVar
  cases gs[i]? with
  | none => simp
  | some o => cases o <;> simp
@[simp] theorem we_aNil : we (aNil gs G) A ↔ A (.val []) G := by simp [aNil]
@[simp] theorem we_aCons {f : SE} {r : SA} : we (aCons f r gs G) A ↔ we (f gs G) (onR (fun d G1 => we (r gs G1) (onR (fun ds G2 => A (.val (d :: ds)) G2) fun e G2 => A (.exc e) G2)) fun e G1 => A (.exc e) G1) := by
  unfold aCons; simp
@[simp] theorem we_eArgs {F : List D → Mm D} {fa : SA} : we (eArgs F fa gs G) Q ↔ we (fa gs G) (onR (fun ds G1 => we (F ds G1) Q) fun e G1 => Q (.exc e) G1) := by unfold eArgs; simp
@[simp] theorem we_eCall {F : Fn} {fa : SA} : we (eCall F fa gs G) Q ↔ we (fa gs G) (onR (fun ds G1 => we (F ds G1) Q) fun e G1 => Q (.exc e) G1) := by unfold eCall; simp
@[simp] theorem we_eOp {F : D → D → Mm D} {fa fb : SE} : we (eOp F fa fb gs G) Q ↔ we (fa gs G) (onR (fun d G1 => we (fb gs G1) (onR (fun e G2 => we (F d e G2) Q) fun e G2 => Q (.exc e) G2)) fun e G1 => Q (.exc e) G1) := by unfold eOp; simp
@[simp] theorem we_eUn {F : D → Mm D} {fa : SE} : we (eUn F fa gs G) Q ↔ we (fa gs G) (onR (fun d G1 => we (F d G1) Q) fun e G1 => Q (.exc e) G1) := by unfold eUn; simp
@[simp] theorem we_tB {fa : SE} : we (tB fa gs G) B ↔ we (fa gs G) (onR (asB fun b G1 => B (.val b) G1) fun e G1 => B (.exc e) G1) := by
  unfold tB; rw [we_bnd]
  exact we_sub fun d G1 => by cases d <;> simp [asB]
@[simp] theorem we_tNot {f : ST} : we (tNot' f gs G) B ↔ we (f gs G) (onR (fun b G1 => B (.val (!b)) G1) fun e G1 => B (.exc e) G1) := by unfold tNot'; simp
@[simp] theorem we_tAnd {f h : ST} : we (tAnd' f h gs G) B ↔ we (f gs G) (onR (fun b G1 => if b = true then we (h gs G1) B else B (.val false) G1) fun e G1 => B (.exc e) G1) := by
  unfold tAnd'; rw [we_bnd]
  exact we_sub fun b G1 => by cases b <;> simp
@[simp] theorem we_tOr {f h : ST} : we (tOr' f h gs G) B ↔ we (f gs G) (onR (fun b G1 => if b = true then B (.val true) G1 else we (h gs G1) B) fun e G1 => B (.exc e) G1) := by
  unfold tOr'; rw [we_bnd]
  exact we_sub fun b G1 => by cases b <;> simp
@[simp] theorem we_eIf {c : ST} {f h : SE} : we (eIf c f h gs G) Q ↔ we (c gs G) (onR (fun b G1 => if b = true then we (f gs G1) Q else we (h gs G1) Q) fun e G1 => Q (.exc e) G1) := by
  unfold eIf; rw [we_bnd]
  exact we_sub fun b G1 => by cases b <;> simp
@[simp] theorem we_eAnd {f h : SE} : we (eAnd f h gs G) Q ↔ we (f gs G) (onR (asB fun b G1 => if b = true then we (h gs G1) Q else Q (.val (.bl false)) G1) fun e G1 => Q (.exc e) G1) := by
  unfold eAnd; rw [we_bnd]
  exact we_sub fun d G1 => by
    cases d with
    | bl b => cases b <;> simp
    | _ => simp [asB]
@[simp] theorem we_eOr {f h : SE} : we (eOr f h gs G) Q ↔ we (f gs G) (onR (asB fun b G1 => if b = true then Q (.val (.bl true)) G1 else we (h gs G1) Q) fun e G1 => Q (.exc e) G1) := by
  unfold eOr; rw [we_bnd]
  exact we_sub fun d G1 => by
    cases d with
    | bl b => cases b <;> simp
    | _ => simp [asB]
@[simp] theorem we_eNot {f : SE} : we (eNot f gs G) Q ↔ we (f gs G) (onR (asB fun b G1 => Q (.val (.bl (!b))) G1) fun e G1 => Q (.exc e) G1) := by
  unfold eNot; rw [we_bnd]
  exact we_sub fun d G1 => by cases d <;> simp [asB]
@[simp] theorem we_eB {f : ST} : we (eB f gs G) Q ↔ we (f gs G) (onR (fun b G1 => Q (.val (.bl b)) G1) fun e G1 => Q (.exc e) G1) := by unfold eB; simp
@[simp] theorem we_eChain {F F' : D → D → Mm D} {fa fb fc : SE} : we (eChain F F' fa fb fc gs G) Q ↔ we (fa gs G) (onR (fun d G1 => we (fb gs G1) (onR (fun e G2 => we (F d e G2) (onR (asB fun b G3 => if b = true then we (fc gs G3) (onR (fun z G4 => we (F' e z G4) Q) fun e G4 => Q (.exc e) G4) else Q (.val (.bl false)) G3)
    fun e G3 => Q (.exc e) G3)) fun e G2 => Q (.exc e) G2)) fun e G1 => Q (.exc e) G1) := by
  unfold eChain; rw [we_bnd]
  refine we_sub fun d G1 => ?_
  rw [we_bnd]
  refine we_sub fun e G2 => ?_
  rw [we_bnd]
  refine we_sub fun k G3 => ?_
  cases k with
  | bl b => cases b <;> simp
  | _ => simp [asB]
@[simp] theorem we_eMtL {F : D → List D → Mm D} {fo : SE} {fa : SA} : we (eMtL F fo fa gs G) Q ↔ we (fo gs G) (onR (fun d G1 => if isLst G1 d = true then we (fa gs G1) (onR (fun ds G2 => we (F d ds G2) Q) fun e G2 => Q (.exc e) G2) else False) fun e G1 => Q (.exc e) G1) := by
  unfold eMtL; rw [we_bnd]
  refine we_sub fun d G1 => ?_
  by_cases h : isLst G1 d = true <;> simp [h]
end
theorem we_fn {n : Nat} {b : SS} {B : List D → Option (List D)} {ds es : List D} {G : Hh} {Q : Rs D → Hh → Prop} (hB : B ds = some es) (h : ws (b (start0 n es) G) fun fl _ G' => match fl with
    | .nx => we (slim G (some (.val .non, G'))) Q | .rt d => we (slim G (some (.val d, G'))) Q | .ex x => we (slim G (some (.exc x, G'))) Q | _ => False) : we (mkFnB B n b ds G) Q := by
  obtain ⟨fl, gs', G', e, q⟩ := h
  unfold mkFnB
  rw [hB]
  dsimp only
  unfold runB
  rw [e]
  cases fl with
  | nx => exact q
  | rt d => exact q
  | ex x => exact q
  | bk => exact q.elim
  | ct => exact q.elim
theorem we_slim {G0 G' : Hh} {d : D} {Q : Rs D → Hh → Prop} (hd : ∀ m, d ≠ .ref m) (hb : d.bw G0.length = true) (ho : Old G0 G') (q : Q (.val d) (G'.take G0.length)) : we (slim G0 (some (.val d, G'))) Q := by
  cases d with
  | ref m => exact absurd rfl (hd m)
  | _ =>
    unfold slim
    dsimp only
    rw [if_pos ⟨ho, hb⟩]
    exact (we_some _ _).mpr q
end FI
namespace FI
open PySem L2
section
variable {G G' : Hh}
theorem slim_len {r : Rs D} (h : G'.length = G.length) : slim G (some (r, G')) = some (r, G') := by
  have ht : G'.take G.length = G' := by rw [← h]; exact List.take_length
  cases r with
  | exc x =>
    unfold slim
    dsimp only
    split
    · rw [ht]
    · rfl
  | val d =>
    cases d with
    | ref m =>
      unfold slim
      dsimp only
      split
      · split
        · rw [ht]
        · rename_i hm
          have e : G'[m]? = none := List.getElem?_eq_none (by omega)
          rw [e]
      · rfl
    | _ =>
      unfold slim
      dsimp only
      split
      · rw [ht]
      · rfl
@[simp] theorem slim_same {r : Rs D} : slim G (some (r, G)) = some (r, G) := slim_len rfl
theorem slim_old {d : D} (hd : ∀ m, d ≠ .ref m) (hb : d.bw G.length = true) (ho : Old G G') : slim G (some (.val d, G')) = some (.val d, G'.take G.length) := we_eq (we_slim hd hb ho ⟨rfl, rfl⟩)
theorem slim_oldX {x : Exc} (hb : x.bw G.length = true) (ho : Old G G') : slim G (some (.exc x, G')) = some (.exc x, G'.take G.length) := by
  unfold slim
  dsimp only
  rw [if_pos ⟨ho, hb⟩]
theorem slim_new {m : Nat} {o : O} (ho : Old G G') (hm : G.length ≤ m) (e : G'[m]? = some o) (hb : o.bw G.length = true) : slim G (some (.val (.ref m), G')) = some (.val (.ref G.length), G'.take G.length ++ [o]) := by
  unfold slim
  dsimp only
  rw [if_pos ho, if_neg (by omega), e]
  dsimp only
  rw [if_pos hb]
end
end FI
namespace FI
open PySem L2
section
variable {G G' : Hh} {Q : Rs D → Hh → Prop} {k : Sg × Hh → Prop} {gs : Sg}
@[simp] theorem dAdd_int {i j : Int} : dAdd (.int i) (.int j) G = some (.val (.int (i + j)), G) := rfl
@[simp] theorem dSub_int {i j : Int} : dSub (.int i) (.int j) G = some (.val (.int (i - j)), G) := rfl
theorem dMul_int {i j : Int} (h : okMul i j = true) : dMul (.int i) (.int j) G = some (.val (.int (i * j)), G) := by
  show dMulI (.int i) (.int j) G = _
  show (if okMul i j = true then some (Rs.val (D.int (i * j)), G) else none) = _
  rw [if_pos h]
theorem dMod_int {i j : Int} (h : 0 < j) : dMod (.int i) (.int j) G = some (.val (.int (i % j)), G) := by
  show (if decide (0 < j) = true then some (Rs.val (D.int (i % j)), G) else none) = _
  rw [if_pos (decide_eq_true h)]
theorem dFdiv_int {i j : Int} (h : okDiv i j = true) : dFdiv (.int i) (.int j) G = some (.val (.int (i / j)), G) := by
  show (if okDiv i j = true then some (Rs.val (D.int (i / j)), G) else none) = _
  rw [if_pos h]
theorem dPow_int {i j : Int} (h : okPow i j = true) : dPow (.int i) (.int j) G = some (.val (.int (i ^ j.toNat)), G) := by
  show (if okPow i j = true then some (Rs.val (D.int (i ^ j.toNat)), G) else none) = _
  rw [if_pos h]
@[simp] theorem dNeg_int {i : Int} : dNeg (.int i) G = some (.val (.int (-i)), G) := rfl
@[simp] theorem dLtA_int {i j : Int} : dLtA (.int i) (.int j) G = some (.val (.bl (decide (i < j))), G) := rfl
@[simp] theorem dLe_int {i j : Int} : dLe (.int i) (.int j) G = some (.val (.bl (decide (i ≤ j))), G) := rfl
@[simp] theorem dGt_int {i j : Int} : dGt (.int i) (.int j) G = some (.val (.bl (decide (j < i))), G) := rfl
@[simp] theorem dGe_int {i j : Int} : dGe (.int i) (.int j) G = some (.val (.bl (decide (j ≤ i))), G) := rfl
@[simp] theorem bInt_int {i : Int} : bInt (.int i) G = some (.val (.int i), G) := rfl
@[simp] theorem bAbs_int {i : Int} : bAbs (.int i) G = some (.val (.int (if i < 0 then -i else i)), G) := rfl
def ixO (o : O) (e : D) : Option D := match o with
  | .lst xs => (match e with
    | .int i => atI xs i
    | _ => none)
  | o => (lookO o e).join
@[simp] theorem ixO_lst {xs : List D} {i : Int} : ixO (.lst xs) (.int i) = atI xs i := rfl
@[simp] theorem we_ixR {n : Nat} {e : D} : we (dIx (.ref n) e G) Q ↔ asO G[n]? fun o => asO (ixO o e) fun z => Q (.val z) G := by
  unfold dIx orF dIxS dIxD dIxT itemsD
  cases h : G[n]? with
  | none => simp [h]
  | some o =>
    cases o with
    | lst xs =>
      cases e with
      | int i =>
        show _ ↔ asO (atI xs i) _
        cases h2 : atI xs i with
        | none => simp [lookO, h, h2]
        | some z => simp [h, h2]
      | _ => simp [ixO, lookO, h]
    | dK kvs =>
      simp only [asO_some, ixO]
      cases h2 : lookO (.dK kvs) e with
      | none => simp [h, h2]
      | some z => cases z <;> simp [h, h2]
    | dT kvs =>
      simp only [asO_some, ixO]
      cases h2 : lookO (.dT kvs) e with
      | none => simp [h, h2]
      | some z => cases z <;> simp [h, h2]
    | dF kvs =>
      simp only [asO_some, ixO]
      cases h2 : lookO (.dF kvs) e with
      | none => simp [h, h2]
      | some z => cases z <;> simp [h, h2]
    | ins c fs => simp [ixO, lookO, h]
@[simp] theorem we_ixT {xs : List D} {i : Int} : we (dIx (.tup xs) (.int i) G) Q ↔ asO (atI xs i) fun z => Q (.val z) G := by
  unfold dIx orF dIxS dIxD dIxT itemsD
  dsimp only
  cases h : atI xs i <;> simp
@[simp] theorem asO_gNm {i : Nat} {d : D} : asO (gNm i d gs G) k ↔ k (gs.set i (some d), G) := .rfl
@[simp] theorem asO_gSb {fo fi : SE} {d : D} : asO (gSb fo fi d gs G) k ↔ we (fo gs G) (onR (fun x G1 => we (fi gs G1) (onR (fun y G2 => asO (dPut x y d G2) fun G3 => k (gs, G3)) fun _ _ => False)) fun _ _ => False) := by
  unfold gSb
  cases fo gs G with
  | none => simp
  | some p =>
    obtain ⟨r, G1⟩ := p
    cases r with
    | exc x => simp
    | val x =>
      dsimp only
      simp only [we_some, onR_val]
      cases fi gs G1 with
      | none => simp
      | some p =>
        obtain ⟨r, G2⟩ := p
        cases r with
        | exc x => simp
        | val y =>
          dsimp only
          simp only [we_some, onR_val]
          cases dPut x y d G2 <;> simp
@[simp] theorem asO_dPut {n : Nat} {e v : D} {k : Hh → Prop} : asO (dPut (.ref n) e v G) k ↔ asO G[n]? fun o => asO (putO o e v) fun o' => k (G.set n o') := by
  unfold dPut
  dsimp only
  cases G[n]? with
  | none => simp
  | some o =>
    dsimp only
    simp only [asO_some]
    cases putO o e v <;> simp
@[simp] theorem putO_lst {xs : List D} {i : Int} {v : D} : putO (.lst xs) (.int i) v = (ixN xs.length i).map fun j => .lst (xs.set j v) := by
  unfold putO
  dsimp only
  cases ixN xs.length i <;> rfl
theorem atI_nat {α : Type} {xs : List α} {i : Int} (h0 : 0 ≤ i) : atI xs i = xs[i.toNat]? := by
  unfold atI ixN
  rw [if_pos h0]
  by_cases h : i < xs.length
  · rw [if_pos h]; rfl
  · rw [if_neg h]
    exact (List.getElem?_eq_none (by omega)).symm
@[simp] theorem asO_map {α β : Type} {o : Option α} {f : α → β} {k : β → Prop} : asO (o.map f) k ↔ asO o fun a => k (f a) := by cases o <;> rfl
@[simp] theorem asO_bind {α β : Type} {o : Option α} {f : α → Option β} {k : β → Prop} : asO (o.bind f) k ↔ asO o fun a => asO (f a) k := by cases o <;> rfl
end
end FI
namespace FI
open PySem L2
theorem set_selfO {α : Type} {l : List α} {n : Nat} {x : α} : (l.set n x)[n]? = (l[n]?).map fun _ => x := by
  rw [List.getElem?_set_self']
  rfl
end FI
namespace FI
open PySem L2
section
variable {G : Hh} {neg : Bool}
theorem pdS_int {i : Int} : pdS G (.int i) = some (.int i) := rfl
theorem dEqv_of {d e : D} {p q : PyData} (h1 : pdS G d = some p) (h2 : pdS G e = some q) : dEqv neg d e G = some (.val (.bl (neg ^^ PyData.eqv p q)), G) := by
  unfold dEqv
  rw [h1, h2]
@[simp] theorem dEqv_int {i j : Int} : dEqv neg (.int i) (.int j) G = some (.val (.bl (neg ^^ decide (i = j))), G) := by
  rw [dEqv_of pdS_int pdS_int]
  have e : PyData.eqv (.int i) (.int j) = decide (i = j) := by
    unfold PyData.eqv
    by_cases h : i = j <;> simp [h]
  rw [e]
theorem okMul_r {i j : Int} (h : -(2 ^ 64) < j ∧ j < 2 ^ 64) : okMul i j = true := by
  unfold okMul
  rw [decide_eq_true h, Bool.or_true]
theorem dMul_r {i j : Int} (h : -(2 ^ 64) < j ∧ j < 2 ^ 64) : dMul (.int i) (.int j) G = some (.val (.int (i * j)), G) := dMul_int (okMul_r h)
end
end FI
namespace FI
open PySem L2
section
variable {G : Hh} {Q : Rs D → Hh → Prop}
def lenO : O → Option Nat
  | .lst xs => some xs.length
  | .dK kvs => some kvs.length
  | .dT kvs => some kvs.length
  | .dF _ => none
  | .ins _ _ => none
@[simp] theorem lenO_lst {xs : List D} : lenO (.lst xs) = some xs.length := rfl
@[simp] theorem we_lenR {n : Nat} : we (bLen (.ref n) G) Q ↔ asO G[n]? fun o => asO (lenO o) fun k => Q (.val (.int k)) G := by
  unfold bLen lenD
  dsimp only
  cases h : G[n]? with
  | none => simp
  | some o => cases o <;> simp [lenO]
@[simp] theorem lenT {xs : List D} : bLen (.tup xs) G = some (.val (.int xs.length), G) := rfl
end
end FI
namespace FI
open PySem L2
theorem okDiv_lt {i j : Int} (h0 : 0 < j) (h1 : j < 2 ^ 64) : okDiv i j = true := by
  unfold okDiv
  rw [decide_eq_true h0, Bool.true_and]
  refine decide_eq_true ?_
  have h3 : j.natAbs ≠ 0 := by omega
  have h4 := (Nat.log2_lt (n := j.natAbs) (k := 64) h3).mpr (by omega)
  omega
theorem dFdiv_lt {i j : Int} {G : Hh} (h0 : 0 < j) (h1 : j < 2 ^ 64) : dFdiv (.int i) (.int j) G = some (.val (.int (i / j)), G) := dFdiv_int (okDiv_lt h0 h1)
end FI
set_option maxRecDepth 100000
set_option maxHeartbeats 2000000
namespace FI
open PySem L2
def onTurn (P : Sg → Hh → Prop) (R : Fl → Sg → Hh → Prop) : Fl → Sg → Hh → Prop
  | .nx, gs, G => P gs G
  | .ct, gs, G => P gs G
  | .bk, gs, G => R .nx gs G
  | .rt d, gs, G => R (.rt d) gs G
  | .ex x, gs, G => R (.ex x) gs G
section
variable {P : Sg → Hh → Prop} {R : Fl → Sg → Hh → Prop} {gs : Sg} {G : Hh}
@[simp] theorem onTurn_nx : onTurn P R .nx gs G ↔ P gs G := .rfl
@[simp] theorem onTurn_ct : onTurn P R .ct gs G ↔ P gs G := .rfl
@[simp] theorem onTurn_bk : onTurn P R .bk gs G ↔ R .nx gs G := .rfl
@[simp] theorem onTurn_rt {d : D} : onTurn P R (.rt d) gs G ↔ R (.rt d) gs G := .rfl
@[simp] theorem onTurn_ex {x : Exc} : onTurn P R (.ex x) gs G ↔ R (.ex x) gs G := .rfl
end
theorem forL_ind {t : GT} {b : SS} {gd : Hh → Prop} {R : Fl → Sg → Hh → Prop} : ∀ (items : List D) (P : Nat → Sg → Hh → Prop) (gs : Sg) (G : Hh), P 0 gs G → (∀ i gs G, i ≤ items.length → P i gs G → gd G) →
    (∀ i (h : i < items.length) gs G, P i gs G → asO (t items[i] gs G) fun p => ws (b p.1 p.2) (onTurn (P (i + 1)) R)) → (∀ gs G, P items.length gs G → R .nx gs G) → ws (forL t b gd items gs G) R
  | [], P, gs, G, h0, hg, _, he => by
    unfold forL
    rw [if_pos (hg 0 gs G (Nat.le_refl _) h0)]
    exact (ws_some _ _ _).mpr (he gs G h0)
  | d :: ds, P, gs, G, h0, hg, hs, he => by
    unfold forL
    rw [if_pos (hg 0 gs G (Nat.zero_le _) h0)]
    have z := hs 0 (Nat.zero_lt_succ _) gs G h0
    have z' : asO (t d gs G) fun p => ws (b p.1 p.2) (onTurn (P 1) R) := z
    cases e : t d gs G with
    | none => rw [e] at z'; exact z'.elim
    | some p =>
      rw [e] at z'
      obtain ⟨fl, gs1, G1, e1, q⟩ : ws (b p.1 p.2) (onTurn (P 1) R) := z'
      have rest : ∀ gs G, P 1 gs G → ws (forL t b gd ds gs G) R := fun gs G h1 =>
        forL_ind ds (fun i => P (i + 1)) gs G h1 (fun i gs G hi h => hg (i + 1) gs G (by simp; omega) h) (fun i hi gs G h => hs (i + 1) (by simp; omega) gs G h) (fun gs G h => he gs G h)
      obtain ⟨p1, p2⟩ := p
      dsimp only at e1 ⊢
      rw [e1]
      cases fl with
      | nx => exact rest _ _ q
      | ct => exact rest _ _ q
      | bk => exact (ws_some _ _ _).mpr q
      | rt d => exact (ws_some _ _ _).mpr q
      | ex x => exact (ws_some _ _ _).mpr q
theorem ws_sFor {fw : SW} {t : GT} {b : SS} {gs : Sg} {G G1 : Hh} {R : Fl → Sg → Hh → Prop} {items : List D} {gd : Hh → Prop} (hw : fw gs G = some (.val (items, gd), G1)) (P : Nat → Sg → Hh → Prop) (h0 : P 0 gs G1) (hg : ∀ i gs G, i ≤ items.length → P i gs G → gd G)
    (hs : ∀ i (h : i < items.length) gs G, P i gs G → asO (t items[i] gs G) fun p => ws (b p.1 p.2) (onTurn (P (i + 1)) R)) (he : ∀ gs G, P items.length gs G → R .nx gs G) : ws (sFor fw t b gs G) R := by
  unfold sFor
  rw [hw, onE_val]
  exact forL_ind items P gs G1 h0 hg hs he
theorem lcL_ind {t : GT} {tt : ST} {fe : SE} {gd : Hh → Prop} {gs0 : Sg} {n : Nat} : ∀ (items : List D) (P : Nat → Hh → Prop) (G : Hh), P 0 G → (∀ i G, i ≤ items.length → P i G → gd G) →
    (∀ i (h : i < items.length) G, P i G → asO (t items[i] gs0 G) fun p => we (tt p.1 p.2) (onR (fun k G2 => if k = true then we (fe p.1 G2) (onR (fun y G3 => ∃ acc, G3[n]? = some (.lst acc) ∧ acc.length < 100000 ∧ P (i + 1) (G3.set n (.lst (acc ++ [y])))) fun _ _ => False) else P (i + 1) G2) fun _ _ => False)) →
    ∃ G', lcL t tt fe gd gs0 n items G = some G' ∧ P items.length G'
  | [], P, G, h0, hg, _ => by
    unfold lcL
    rw [if_pos (hg 0 G (Nat.le_refl _) h0)]
    exact ⟨G, rfl, h0⟩
  | d :: ds, P, G, h0, hg, hs => by
    unfold lcL
    rw [if_pos (hg 0 G (Nat.zero_le _) h0)]
    have z : asO (t d gs0 G) fun p => we (tt p.1 p.2) (onR (fun k G2 => if k = true then we (fe p.1 G2) (onR (fun y G3 => ∃ acc, G3[n]? = some (.lst acc) ∧ acc.length < 100000 ∧ P 1 (G3.set n (.lst (acc ++ [y])))) fun _ _ => False) else P 1 G2) fun _ _ => False) := hs 0 (Nat.zero_lt_succ _) G h0
    have rest : ∀ G, P 1 G → ∃ G', lcL t tt fe gd gs0 n ds G = some G' ∧ P (ds.length + 1) G' := fun G h1 =>
      lcL_ind ds (fun i => P (i + 1)) G h1 (fun i G hi h => hg (i + 1) G (by simp; omega) h) (fun i hi G h => hs (i + 1) (by simp; omega) G h)
    cases e : t d gs0 G with
    | none => rw [e] at z; exact z.elim
    | some p =>
      obtain ⟨p1, p2⟩ := p
      rw [e] at z
      obtain ⟨r, G2, e1, q⟩ := z
      dsimp only at e1 ⊢
      rw [e1]
      cases r with
      | exc x => exact q.elim
      | val k =>
        cases k with
        | false => exact rest _ (by simpa using q)
        | true =>
          rw [onR_val, if_pos rfl] at q
          obtain ⟨r, G3, e2, q2⟩ := q
          dsimp only at e2 ⊢
          rw [e2]
          cases r with
          | exc x => exact q2.elim
          | val y =>
            obtain ⟨acc, e3, hl, h1⟩ := q2
            dsimp only
            rw [e3]
            dsimp only
            rw [if_pos hl]
            exact rest _ h1
theorem we_eLc {fw : SW} {t : GT} {tt : ST} {fe : SE} {own : List Nat} {gs : Sg} {G G1 : Hh} {Q : Rs D → Hh → Prop} {items : List D} {gd : Hh → Prop} (hw : fw gs G = some (.val (items, gd), G1)) (P : Nat → Hh → Prop) (h0 : P 0 (G1 ++ [.lst []])) (hg : ∀ i G, i ≤ items.length → P i G → gd G)
    (hs : ∀ i (h : i < items.length) G, P i G → asO (t items[i] (wipeG gs own) G) fun p => we (tt p.1 p.2) (onR (fun k G2 => if k = true then we (fe p.1 G2) (onR (fun y G3 => ∃ acc, G3[G1.length]? = some (.lst acc) ∧ acc.length < 100000 ∧ P (i + 1) (G3.set G1.length (.lst (acc ++ [y])))) fun _ _ => False) else P (i + 1) G2) fun _ _ => False))
    (he : ∀ G', P items.length G' → Q (.val (.ref G1.length)) G') : we (eLc fw t tt fe own gs G) Q := by
  obtain ⟨G', e, h⟩ := lcL_ind (n := G1.length) (gs0 := wipeG gs own) items P (G1 ++ [.lst []]) h0 hg hs
  unfold eLc
  rw [hw, bnd_val]
  dsimp only
  rw [e]
  exact (we_some _ _).mpr (he G' h)
@[simp] theorem we_tTrue {gs : Sg} {G : Hh} {B : Rs Bool → Hh → Prop} : we (tTrue gs G) B ↔ B (.val true) G := by unfold tTrue; simp
theorem we_eLcP {fw : SW} {t : GT} {tt : ST} {fe : SE} {own : List Nat} {gs : Sg} {G G1 : Hh} {Q : Rs D → Hh → Prop} {items : List D} {gd : Hh → Prop} (hw : fw gs G = some (.val (items, gd), G1)) (f : D → Option D) (hlen : items.length ≤ 100000) (hg : ∀ acc, gd (G1 ++ [.lst acc]))
    (hs : ∀ d ∈ items, ∀ acc, asO (t d (wipeG gs own) (G1 ++ [.lst acc])) fun p => p.2 = G1 ++ [.lst acc] ∧ we (tt p.1 p.2) (onR (fun k G2 => G2 = G1 ++ [.lst acc] ∧ if k = true then we (fe p.1 G2) (onR (fun y G3 => f d = some y ∧ G3 = G1 ++ [.lst acc]) fun _ _ => False) else f d = none) fun _ _ => False))
    (he : Q (.val (.ref G1.length)) (G1 ++ [.lst (items.filterMap f)])) : we (eLc fw t tt fe own gs G) Q := by
  refine we_eLc hw (fun i G' => G' = G1 ++ [.lst ((items.take i).filterMap f)]) (by simp) (fun i G' _ h => by rw [h]; exact hg _) (fun i h G' hP => ?_) (fun G' hP => by rw [hP, List.take_length]; exact he)
  have hP' : G' = G1 ++ [.lst ((items.take i).filterMap f)] := hP
  have z := hs items[i] (List.getElem_mem h) ((items.take i).filterMap f)
  rw [← hP'] at z
  have et : (items.take (i + 1)).filterMap f = (items.take i).filterMap f ++ (match f items[i] with | some y => [y] | none => []) := by
    rw [List.take_succ_eq_append_getElem h, List.filterMap_append]
    cases hf : f items[i] <;> simp [hf]
  cases e : t items[i] (wipeG gs own) G' with
  | none => rw [e] at z; exact z.elim
  | some p =>
    rw [e] at z
    obtain ⟨hp, z⟩ := z
    refine we_mono z fun r G2 q => ?_
    cases r with
    | exc x => exact q.elim
    | val k =>
      obtain ⟨h2, q⟩ := q
      subst h2
      rw [onR_val]
      cases k with
      | false =>
        rw [if_neg Bool.false_ne_true] at q ⊢
        rw [et, q]
        simpa using hP'
      | true =>
        rw [if_pos rfl] at q ⊢
        refine we_mono q fun r3 G3 q3 => ?_
        cases r3 with
        | exc x => exact q3.elim
        | val y =>
          obtain ⟨hy, h3⟩ := q3
          subst h3
          refine ⟨(items.take i).filterMap f, by rw [hP']; simp, ?_, ?_⟩
          · have := List.length_filterMap_le f (items.take i)
            rw [List.length_take] at this
            omega
          · rw [et, hy, hP']
            simp
theorem wSeq_tup {fe : SE} {gs : Sg} {G G1 : Hh} {xs : List D} (h : fe gs G = some (.val (.tup xs), G1)) : wSeq fe gs G = some (.val (xs, anyH), G1) := by unfold wSeq; rw [h]; rfl
theorem wSeq_ref {fe : SE} {gs : Sg} {G G1 : Hh} {n : Nat} {xs : List D} (h : fe gs G = some (.val (.ref n), G1)) (h1 : G1[n]? = some (.lst xs)) : wSeq fe gs G = some (.val (xs, stays n xs), G1) := by
  unfold wSeq seqOf
  rw [h, bnd_val]
  dsimp only
  rw [h1]
end FI
namespace FI
open PySem L2
theorem cutL_map {α β : Type} (f : α → β) (xs : List α) (lo hi : Option Int) : cutL (xs.map f) lo hi = (cutL xs lo hi).map f := by
  unfold cutL
  rw [List.length_map, List.map_take, List.map_drop]
section
variable {G : Hh} {Q : Rs D → Hh → Prop} {gs : Sg}
@[simp] theorem we_eSl {fa : SE} {fl fh : SO} : we (eSl fa fl fh gs G) Q ↔ we (fa gs G) (onR (fun d G1 => we (fl gs G1) (onR (fun l G2 => we (fh gs G2) (onR (fun h G3 => we (dSl d l h G3) Q) fun e G3 => Q (.exc e) G3)) fun e G2 => Q (.exc e) G2)) fun e G1 => Q (.exc e) G1) := by unfold eSl; simp
@[simp] theorem we_oNone {B : Rs (Option Int) → Hh → Prop} : we (oNone gs G) B ↔ B (.val none) G := by unfold oNone; simp
def asI (f : Int → Hh → Prop) : D → Hh → Prop
  | .int i, G => f i G
  | _, _ => False
@[simp] theorem asI_int {f : Int → Hh → Prop} {i : Int} : asI f (.int i) G ↔ f i G := .rfl
@[simp] theorem we_oSome {fe : SE} {B : Rs (Option Int) → Hh → Prop} : we (oSome fe gs G) B ↔ we (fe gs G) (onR (asI fun i G1 => B (.val (some i)) G1) fun e G1 => B (.exc e) G1) := by
  unfold oSome; rw [we_bnd]
  exact we_sub fun d G1 => by cases d <;> simp [asI]
@[simp] theorem dSl_tup {xs : List D} {lo hi : Option Int} : dSl (.tup xs) lo hi G = some (.val (.tup (cutL xs lo hi)), G) := rfl
@[simp] theorem dSl_kl {xs : List D} {lo hi : Option Int} : dSl (.kl xs) lo hi G = some (.val (.ref G.length), G ++ [.lst (cutL xs lo hi)]) := rfl
def lstO : O → Option (List D)
  | .lst xs => some xs
  | _ => none
@[simp] theorem lstO_lst {xs : List D} : lstO (.lst xs) = some xs := rfl
@[simp] theorem dSl_ref {n : Nat} {lo hi : Option Int} : we (dSl (.ref n) lo hi G) Q ↔ asO G[n]? fun o => asO (lstO o) fun xs => Q (.val (.ref G.length)) (G ++ [.lst (cutL xs lo hi)]) := by
  unfold dSl
  dsimp only
  cases G[n]? with
  | none => simp
  | some o => cases o <;> simp [lstO]
@[simp] theorem dTup_eq {ds : List D} (h : ds.length ≤ 100000) : dTup ds G = some (.val (.tup ds), G) := if_pos h
@[simp] theorem dLst_eq {ds : List D} (h : ds.length ≤ 100000) : dLst ds G = some (.val (.ref G.length), G ++ [.lst ds]) := if_pos h
end
end FI
namespace FI
open PySem L2
@[simp] theorem we_addR {G : Hh} {Q : Rs D → Hh → Prop} {n m : Nat} : we (dAdd (.ref n) (.ref m) G) Q ↔ asO G[n]? fun o => asO (lstO o) fun xs => asO G[m]? fun o2 => asO (lstO o2) fun ys => xs.length + ys.length ≤ 100000 ∧ Q (.val (.ref G.length)) (G ++ [.lst (xs ++ ys)]) := by
  unfold dAdd dCatL
  dsimp only
  cases h1 : G[n]? with
  | none => simp
  | some o =>
    cases o with
    | lst xs =>
      cases h2 : G[m]? with
      | none => simp
      | some o2 =>
        cases o2 with
        | lst ys =>
          by_cases hl : xs.length + ys.length ≤ 100000
          · simp [hl]
          · simp [hl]
        | _ => simp [lstO]
    | _ => simp [lstO]
@[simp] theorem addT {G : Hh} {xs ys : List D} : dAdd (.tup xs) (.tup ys) G = dCatT (.tup xs) (.tup ys) G := rfl
end FI
namespace FI
open PySem L2
def onI (f : Int → D) : D → Option D
  | .int i => some (f i)
  | _ => none
@[simp] theorem onI_int {f : Int → D} {i : Int} : onI f (.int i) = some (f i) := rfl
end FI
set_option maxRecDepth 100000
set_option maxHeartbeats 2000000
namespace FI
open PySem L2
def Rp (G : Hh) (k : Nat) (d : D) (p : PyData) : Prop := pd G k d = some p ∧ p.canLay0 = true ∧ p.depth < k
inductive RpAll (G : Hh) (k : Nat) : List D → List PyData → Prop
  | nil : RpAll G k [] []
  | cons {d : D} {p : PyData} {ds : List D} {ps : List PyData} : Rp G k d p → RpAll G k ds ps → RpAll G k (d :: ds) (p :: ps)
section
variable {G : Hh} {k : Nat}
theorem Rp.int (i : Int) : Rp G (k + 1) (.int i) (.int i) := ⟨rfl, rfl, Nat.zero_lt_succ _⟩
theorem Rp.bl (i : Bool) : Rp G (k + 1) (.bl i) (.bool i) := ⟨rfl, rfl, Nat.zero_lt_succ _⟩
theorem Rp.non : Rp G (k + 1) .non .none := ⟨rfl, rfl, Nat.zero_lt_succ _⟩
theorem Rp.str {s : Str} (h : PyData.canLay0 (.str s) = true) : Rp G (k + 1) (.str s) (.str s) := ⟨rfl, h, Nat.zero_lt_succ _⟩
theorem RpAll.all : ∀ {ds : List D} {ps : List PyData}, RpAll G k ds ps → optAll (ds.map (pd G k)) = some ps ∧ PyData.canLayAll0 ps = true ∧ (PyData.depthAll ps < k ∨ ds = [])
  | _, _, .nil => ⟨rfl, rfl, .inr rfl⟩
  | _, _, .cons (ds := ds) (ps := ps) h t => by
    obtain ⟨h1, h2, h3⟩ := h
    obtain ⟨t1, t2, t3⟩ := RpAll.all t
    refine ⟨?_, ?_, .inl ?_⟩
    · rw [List.map_cons, h1]
      show (optAll (ds.map (pd G k))).map _ = _
      rw [t1]
      rfl
    · unfold PyData.canLayAll0
      rw [h2, t2]
      rfl
    · unfold PyData.depthAll
      rcases t3 with t3 | t3
      · omega
      · subst t3
        cases t
        unfold PyData.depthAll
        omega
theorem Rp.tup {ds : List D} {ps : List PyData} (h : RpAll G (k + 1) ds ps) : Rp G (k + 2) (.tup ds) (.tuple ps) := by
  obtain ⟨h1, h2, h3⟩ := h.all
  refine ⟨?_, h2, ?_⟩
  · show (optAll (ds.map (pd G (k + 1)))).map _ = _
    rw [h1]
    rfl
  · show PyData.depthAll ps + 1 < k + 2
    rcases h3 with h3 | h3
    · omega
    · subst h3
      cases h
      show 0 + 1 < k + 2
      omega
theorem Rp.kt {ds : List D} {ps : List PyData} (h : RpAll G (k + 1) ds ps) : Rp G (k + 2) (.kt ds) (.tuple ps) := Rp.tup h
theorem Rp.lst {n : Nat} {ds : List D} {ps : List PyData} (hn : G[n]? = some (.lst ds)) (h : RpAll G (k + 1) ds ps) : Rp G (k + 2) (.ref n) (.list ps) := by
  obtain ⟨h1, h2, h3⟩ := h.all
  refine ⟨?_, h2, ?_⟩
  · unfold pd
    rw [hn]
    dsimp only
    rw [h1]
    rfl
  · show PyData.depthAll ps + 1 < k + 2
    rcases h3 with h3 | h3
    · omega
    · subst h3
      cases h
      show 0 + 1 < k + 2
      omega
theorem Rp.pdS {d : D} {p : PyData} (h : Rp G 8 d p) : pdS G d = some p := by
  obtain ⟨h1, h2, h3⟩ := h
  unfold FI.pdS
  rw [h1]
  dsimp only
  rw [if_pos]
  unfold SeqAt.shaped
  rw [h2, Bool.true_and]
  exact decide_eq_true (by omega)
theorem eqv_rp {neg : Bool} {d e : D} {p q : PyData} (h1 : Rp G 8 d p) (h2 : Rp G 8 e q) : dEqv neg d e G = some (.val (.bl (neg ^^ PyData.eqv p q)), G) := dEqv_of h1.pdS h2.pdS
theorem in_rp {neg : Bool} {d : D} {n : Nat} {p : PyData} {ps : List PyData} (h1 : Rp G 8 d p) (h2 : Rp G 8 (.ref n) (.list ps)) : dIn neg d (.ref n) G = some (.val (.bl (neg ^^ ps.any fun z => PyData.eqv z p)), G) := by
  unfold dIn orF dInS
  rw [h1.pdS, h2.pdS]
theorem in_rpT {neg : Bool} {d e : D} {p : PyData} {ps : List PyData} (h1 : Rp G 8 d p) (h2 : Rp G 8 e (.tuple ps)) : dIn neg d e G = some (.val (.bl (neg ^^ ps.any fun z => PyData.eqv z p)), G) := by
  unfold dIn orF dInS
  rw [h1.pdS, h2.pdS]
theorem RpAll.map {α : Type} {f : α → D} {g : α → PyData} : ∀ {xs : List α}, (∀ x ∈ xs, Rp G k (f x) (g x)) → RpAll G k (xs.map f) (xs.map g)
  | [], _ => .nil
  | x :: r, h => .cons (h x (List.mem_cons_self ..)) (RpAll.map fun y hy => h y (List.mem_cons_of_mem _ hy))
end
end FI
namespace FI
open PySem L2
section
variable {G : Hh} {Q : Rs D → Hh → Prop}
@[simp] theorem isLst_ref {n : Nat} : (isLst G (.ref n) = true) ↔ asO G[n]? fun o => (lstO o).isSome = true := by
  unfold isLst
  dsimp only
  cases G[n]? with
  | none => simp
  | some o => cases o <;> simp [lstO]
@[simp] theorem we_append {n : Nat} {d : D} : we (mLst fAppend (.ref n) [d] G) Q ↔ asO G[n]? fun o => asO (lstO o) fun xs => xs.length < 100000 ∧ Q (.val .non) (G.set n (.lst (xs ++ [d]))) := by
  unfold mLst
  dsimp only
  cases G[n]? with
  | none => simp
  | some o =>
    cases o with
    | lst xs =>
      dsimp only [fAppend]
      by_cases h : xs.length < 100000 <;> simp [h]
    | _ => simp [lstO]
@[simp] theorem bMin2_int {i j : Int} : bMin2 (.int i) (.int j) G = some (.val (.int (if j < i then j else i)), G) := rfl
@[simp] theorem bMax2_int {i j : Int} : bMax2 (.int i) (.int j) G = some (.val (.int (if i < j then j else i)), G) := rfl
end
end FI
namespace FI
open PySem L2
theorem ws_cut {f h : SS} {gs : Sg} {G : Hh} {R : Fl → Sg → Hh → Prop} (St : Sg → Hh → Prop) (h1 : ws (f gs G) fun fl gs' G' => fl = .nx ∧ St gs' G') (h2 : ∀ gs' G', St gs' G' → ws (h gs' G') R) : ws (bSeq f h gs G) R := by
  rw [ws_bSeq]
  refine ws_mono h1 fun fl gs' G' ⟨e, s⟩ => ?_
  subst e
  exact h2 gs' G' s
end FI
namespace FI
open PySem L2
theorem okR_small' {i : Int} (h : -100000 ≤ i ∧ i ≤ 100000) : okR i = true := decide_eq_true (by omega)
theorem wRng2_eq {fa : SA} {gs : Sg} {G G1 : Hh} {i j : Int} (h : fa gs G = some (.val [.int i, .int j], G1)) (hi : -100000 ≤ i ∧ i ≤ 100000) (hj : -100000 ≤ j ∧ j ≤ 100000) : wRng2 fa gs G = some (.val (rngD i (j - i).toNat, anyH), G1) := by
  unfold wRng2
  rw [h, bnd_val]
  show (if okR i = true ∧ okR j = true then _ else _) = _
  rw [if_pos ⟨okR_small' hi, okR_small' hj⟩]
end FI
namespace FI
open PySem L2
@[simp] theorem lstD_ref {G : Hh} {n : Nat} {xs : List D} (h : G[n]? = some (.lst xs)) : lstD G (.ref n) = some xs := by
  unfold lstD
  dsimp only
  rw [h]
theorem tupsOf_map : ∀ nss : List (List Int), (∀ ns ∈ nss, ns ≠ []) → tupsOf (nss.map tupI') = some nss
  | [], _ => rfl
  | ns :: r, h => by
    cases ns with
    | nil => exact absurd rfl (h [] (List.mem_cons_self ..))
    | cons a t =>
      have ih := tupsOf_map r fun x hx => h x (List.mem_cons_of_mem _ hx)
      show (match intsOf ((a :: t).map D.int) with | some ns => (tupsOf (r.map tupI')).map (ns :: ·) | none => none) = _
      rw [intsOf_map, ih]
      rfl
theorem sorted_tups {G : Hh} {n : Nat} {nss : List (List Int)} (h : G[n]? = some (.lst (nss.map tupI'))) (hne : ∀ ns ∈ nss, ns ≠ []) : bSorted [.ref n] G = some (.val (.ref G.length), G ++ [.lst ((sortT nss).map tupI')]) := by
  unfold bSorted
  have e : bSortL (.ref n) G = some (.val (.ref G.length), G ++ [.lst ((sortT nss).map tupI')]) := by
    unfold bSortL
    rw [lstD_ref h]
    dsimp only
    cases nss with
    | nil =>
      show some (Rs.val (D.ref G.length), G ++ [O.lst ((sortI []).map D.int)]) = _
      have h1 : sortI [] = [] := (sortI_perm []).length_eq |> fun h => List.eq_nil_of_length_eq_zero h
      have h2 : sortT [] = [] := (sortT_perm []).length_eq |> fun h => List.eq_nil_of_length_eq_zero h
      rw [h1, h2]
      rfl
    | cons ns r =>
      have hi : intsOf ((ns :: r).map tupI') = none := rfl
      rw [hi, tupsOf_map _ hne]
  show (match bSortL (.ref n) G with | some z => some z | none => _) = _
  rw [e]
end FI
namespace FI
open PySem L2
section
variable {t : GT} {b : SS} {gd : Hh → Prop} {R : Fl → Sg → Hh → Prop} {gs : Sg} {G : Hh}
@[simp] theorem seqOf_tup {xs : List D} : seqOf G (.tup xs) = some (xs, anyH) := rfl
@[simp] theorem anyH_true : anyH G ↔ True := .rfl
end
end FI
namespace FI
open PySem L2
section
variable {κ : Type} [DecidableEq κ]
theorem setK_len {kvs : List (κ × D)} {k : κ} {d : D} : (setK kvs k d).length ≤ kvs.length + 1 := by
  unfold setK
  split <;> simp
end
end FI
namespace FI
open PySem L2
section
variable {gs : Sg} {G : Hh} {R : Fl → Sg → Hh → Prop}
@[simp] theorem ws_sAugN {k : Nat} {F : Int → Int → Int} {fe : SE} : ws (sAugN k F fe gs G) R ↔ asO gs[k]? fun o => asO o fun d => asI (fun a G => we (fe gs G) (onR (asI fun b G1 => R .nx (gs.set k (some (.int (F a b)))) G1) fun e G1 => R (.ex e) gs G1)) d G := by
  unfold sAugN
  cases gs[k]? with
  | none => simp
  | some o =>
    cases o with
    | none => simp
    | some d =>
      cases d with
      | int a =>
        simp only [asO_some, asI_int]
        rw [ws_onE]
        exact we_sub fun d G1 => by cases d <;> simp [asI]
      | _ => simp [asI]
end
end FI
namespace FI
open PySem L2
section
variable {gs : Sg} {G : Hh} {R : Fl → Sg → Hh → Prop}
theorem ws_sAugS_lst {F : Int → Int → Int} {fo fi fe : SE} {n : Nat} {xs : List D} {i a b : Int} {j : Nat} (ho : fo gs G = some (.val (.ref n), G)) (hi : fi gs G = some (.val (.int i), G)) (he : fe gs G = some (.val (.int b), G)) (hn : G[n]? = some (.lst xs)) (hj : ixN xs.length i = some j) (hx : xs[j]? = some (.int a))
    (k : R .nx gs (G.set n (.lst (xs.set j (.int (F a b)))))) : ws (sAugS F fo fi fe gs G) R := by
  unfold sAugS
  rw [ho, onE_val, hi, onE_val]
  have e1 : dGetR (.ref n) (.int i) G = some (.int a) := by
    unfold dGetR
    dsimp only
    rw [hn]
    dsimp only
    unfold atI
    rw [hj]
    exact hx
  rw [e1]
  dsimp only
  rw [he, onE_val]
  have e2 : dPut (.ref n) (.int i) (.int (F a b)) G = some (G.set n (.lst (xs.set j (.int (F a b))))) := by
    unfold dPut
    dsimp only
    rw [hn]
    dsimp only
    rw [putO_lst, hj]
    rfl
  dsimp only
  rw [e2]
  exact (ws_some _ _ _).mpr k
end
theorem ws_sWhile {fc : ST} {b : SS} {gs : Sg} {G : Hh} {R : Fl → Sg → Hh → Prop} (P : Nat → Sg → Hh → Prop) (m : Nat) (h0 : P m gs G)
    (hs : ∀ m gs G, P m gs G → we (fc gs G) (onR (fun k G1 => if k = true then ws (b gs G1) (onTurn (fun gs2 G2 => ∃ m', m' < m ∧ P m' gs2 G2) R) else R .nx gs G1) fun x G1 => R (.ex x) gs G1)) : ws (sWhile fc b gs G) R := by
  have key : ∀ m gs G, P m gs G → ws (whileN (m + 1) fc b gs G) R := by
    intro m
    induction m using Nat.strongRecOn with
    | _ m ih =>
      intro gs G h
      obtain ⟨r, G1, e, q⟩ := hs m gs G h
      unfold whileN
      rw [e]
      cases r with
      | exc x => rw [onE_exc]; exact (ws_some _ _ _).mpr q
      | val k =>
        rw [onE_val]
        rw [onR_val] at q
        cases k with
        | false => exact (ws_some _ _ _).mpr q
        | true =>
          rw [if_pos rfl] at q ⊢
          obtain ⟨fl, gs2, G2, e2, q2⟩ := q
          rw [e2]
          have more : (∃ m', m' < m ∧ P m' gs2 G2) → ws (whileN m fc b gs2 G2) R := fun ⟨m', hm, hP⟩ => by
            obtain ⟨fl3, gs3, G3, e3, q3⟩ := ih m' hm gs2 G2 hP
            exact ⟨fl3, gs3, G3, whileN_le (by omega) e3, q3⟩
          cases fl with
          | nx => exact more q2
          | ct => exact more q2
          | bk => exact (ws_some _ _ _).mpr q2
          | rt d => exact (ws_some _ _ _).mpr q2
          | ex x => exact (ws_some _ _ _).mpr q2
  obtain ⟨fl, gs', G', e, q⟩ := key m gs G h0
  exact ⟨fl, gs', G', sWhile_eq e, q⟩
end FI
set_option maxRecDepth 100000
set_option maxHeartbeats 2000000
namespace FI
open PySem L2
inductive U where
  | non
  | bl (b : Bool)
  | int (i : Int)
  | str (s : Str)
  | tup (us : List U)
  | lst (us : List U)
structure Xc where
  c : Nat
  fs : List (Nat × U)
inductive Ro (A : Type) where
  | val (a : A)
  | exc (x : Xc)
inductive Nul where
  | a
  | b
abbrev TM (σ A : Type) := σ → Option (Ro A × σ)
section
variable {σ A B C : Type}
def pureT (a : A) : TM σ A := fun s => some (.val a, s)
def failT : TM σ A := fun _ => none
def raiseT (x : Xc) : TM σ A := fun s => some (.exc x, s)
def bindT (t : TM σ A) (k : A → TM σ B) : TM σ B := fun s => match t s with
  | some (.val a, s') => k a s'
  | some (.exc x, s') => some (.exc x, s')
  | none => none
def optT : Option A → TM σ A
  | some a => pureT a
  | none => failT
def liftT (t : TM Nul A) : TM σ A := fun s => match t .a with
  | some (r, _) => some (r, s)
  | none => none
theorem bindT_assoc {t : TM σ A} {k : A → TM σ B} {l : B → TM σ C} : bindT (bindT t k) l = bindT t fun a => bindT (k a) l := by
  funext s
  unfold bindT
  cases t s with
  | none => rfl
  | some p =>
    obtain ⟨r, s'⟩ := p
    cases r <;> rfl
theorem bindT_ret {t : TM σ A} : bindT t pureT = t := by
  funext s
  unfold bindT pureT
  cases t s with
  | none => rfl
  | some p =>
    obtain ⟨r, s'⟩ := p
    cases r <;> rfl
end
mutual
inductive RpU (W : List Nat) (G : Hh) : U → D → Prop
  | non : RpU W G .non .non
  | bl (b : Bool) : RpU W G (.bl b) (.bl b)
  | int (i : Int) : RpU W G (.int i) (.int i)
  | str (s : Str) : RpU W G (.str s) (.str s)
  | tup {us : List U} {ds : List D} : RpUs W G us ds → RpU W G (.tup us) (.tup ds)
  | lst {us : List U} {ds : List D} {r : Nat} : r ∉ W → G[r]? = some (.lst ds) → RpUs W G us ds → RpU W G (.lst us) (.ref r)
inductive RpUs (W : List Nat) (G : Hh) : List U → List D → Prop
  | nil : RpUs W G [] []
  | cons {u : U} {d : D} {us : List U} {ds : List D} : RpU W G u d → RpUs W G us ds → RpUs W G (u :: us) (d :: ds)
end
def Keep (W : List Nat) (G G' : Hh) : Prop := G.length ≤ G'.length ∧ ∀ i, i < G.length → i ∉ W → G'[i]? = G[i]?
theorem Keep.refl {W : List Nat} {G : Hh} : Keep W G G := ⟨Nat.le_refl _, fun _ _ _ => rfl⟩
theorem Keep.trans {W : List Nat} {G G1 G2 : Hh} (a : Keep W G G1) (b : Keep W G1 G2) : Keep W G G2 := ⟨Nat.le_trans a.1 b.1, fun i h1 h2 => (b.2 i (Nat.lt_of_lt_of_le h1 a.1) h2).trans (a.2 i h1 h2)⟩
theorem Keep.app {W : List Nat} {G J : Hh} : Keep W G (G ++ J) := ⟨by simp, fun i h _ => List.getElem?_append_left h⟩
theorem Keep.get {W : List Nat} {G G' : Hh} (k : Keep W G G') {i : Nat} {o : O} (h : G[i]? = some o) (hi : i ∉ W) : G'[i]? = some o := by
  rw [k.2 i (List.getElem?_eq_some_iff.mp h).1 hi]
  exact h
theorem Keep.more {W W' : List Nat} {G G' : Hh} (k : Keep W G G') (h : ∀ x ∈ W, x ∈ W') : Keep W' G G' := ⟨k.1, fun i h1 h2 => k.2 i h1 fun h3 => h2 (h i h3)⟩
mutual
theorem RpU.mono {W : List Nat} {G G' : Hh} (k : Keep W G G') : ∀ {u : U} {d : D}, RpU W G u d → RpU W G' u d
  | _, _, .non => .non
  | _, _, .bl b => .bl b
  | _, _, .int i => .int i
  | _, _, .str s => .str s
  | _, _, .tup h => .tup (RpUs.mono k h)
  | _, _, .lst h1 h2 h3 => .lst h1 (k.get h2 h1) (RpUs.mono k h3)
theorem RpUs.mono {W : List Nat} {G G' : Hh} (k : Keep W G G') : ∀ {us : List U} {ds : List D}, RpUs W G us ds → RpUs W G' us ds
  | _, _, .nil => .nil
  | _, _, .cons a b => .cons (RpU.mono k a) (RpUs.mono k b)
end
mutual
theorem RpU.sub {W W' : List Nat} {G : Hh} (k : ∀ x ∈ W', x ∈ W) : ∀ {u : U} {d : D}, RpU W G u d → RpU W' G u d
  | _, _, .non => .non
  | _, _, .bl b => .bl b
  | _, _, .int i => .int i
  | _, _, .str s => .str s
  | _, _, .tup h => .tup (RpUs.sub k h)
  | _, _, .lst h1 h2 h3 => .lst (fun h => h1 (k _ h)) h2 (RpUs.sub k h3)
theorem RpUs.sub {W W' : List Nat} {G : Hh} (k : ∀ x ∈ W', x ∈ W) : ∀ {us : List U} {ds : List D}, RpUs W G us ds → RpUs W' G us ds
  | _, _, .nil => .nil
  | _, _, .cons a b => .cons (RpU.sub k a) (RpUs.sub k b)
end
mutual
/-- its datum, if no list is in it -/
def U.toD : U → Option D
  | .non => some .non
  | .bl b => some (.bl b)
  | .int i => some (.int i)
  | .str s => some (.str s)
  | .tup us => match U.toDs us with
    | some ds => some (.tup ds)
    | none => none
  | .lst _ => none
def U.toDs : List U → Option (List D)
  | [] => some []
  | u :: us => match U.toD u, U.toDs us with
    | some d, some ds => some (d :: ds)
    | _, _ => none
end
mutual
theorem RpU.toD {W : List Nat} {G : Hh} : ∀ {u : U} {d d' : D}, RpU W G u d → u.toD = some d' → d = d'
  | _, _, _, .non, e => by cases e; rfl
  | _, _, _, .bl b, e => by cases e; rfl
  | _, _, _, .int i, e => by cases e; rfl
  | _, _, _, .str s, e => by cases e; rfl
  | .tup us, _, _, .tup h, e => by
    unfold U.toD at e
    cases h2 : U.toDs us with
    | none => rw [h2] at e; cases e
    | some ds => rw [h2] at e; cases e; rw [RpUs.toDs h h2]
  | _, _, _, .lst _ _ _, e => by cases e
theorem RpUs.toDs {W : List Nat} {G : Hh} : ∀ {us : List U} {ds ds' : List D}, RpUs W G us ds → U.toDs us = some ds' → ds = ds'
  | _, _, _, .nil, e => by cases e; rfl
  | u :: us, _, _, .cons a b, e => by
    unfold U.toDs at e
    cases h1 : U.toD u with
    | none => rw [h1] at e; cases e
    | some d =>
      cases h2 : U.toDs us with
      | none => rw [h1, h2] at e; cases e
      | some ds => rw [h1, h2] at e; cases e; rw [RpU.toD a h1, RpUs.toDs b h2]
end
def RpFd (u : U) (d : D) : Prop := ∀ d', u.toD = some d' → d = d'
inductive RpFs : List (Nat × U) → List (Nat × D) → Prop
  | nil : RpFs [] []
  | cons {n : Nat} {u : U} {d : D} {us : List (Nat × U)} {ds : List (Nat × D)} : RpFd u d → RpFs us ds → RpFs ((n, u) :: us) ((n, d) :: ds)
def RpX (x : Xc) (e : Exc) : Prop := e.c = x.c ∧ RpFs x.fs e.fs
structure Kd (A : Type) where
  rel : A → D → List (Nat × O) → List Nat → Hh → Prop
  mono : ∀ {a d os W G G'}, rel a d os W G → Keep W G G' → rel a d os W G'
  sub : ∀ {a d os W W' G}, rel a d os W G → (∀ x ∈ W', x ∈ W) → rel a d os W' G
section
variable {A B : Type}
def kV (enc : A → D) : Kd A := ⟨fun a d os _ _ => d = enc a ∧ os = [], fun h _ => h, fun h _ => h⟩
end
theorem nd_inj {loc : List (Nat × O)} (hn : (loc.map (·.1)).Nodup) {i j : Nat} {p q : Nat × O} (hi : loc[i]? = some p) (hj : loc[j]? = some q) (e : p.1 = q.1) : i = j := by
  obtain ⟨li, ei⟩ := List.getElem?_eq_some_iff.mp hi
  obtain ⟨lj, ej⟩ := List.getElem?_eq_some_iff.mp hj
  have z := List.pairwise_iff_getElem.mp (show (loc.map (·.1)).Pairwise (· ≠ ·) from hn)
  rcases Nat.lt_trichotomy i j with h | h | h
  · exact (z i j (by simpa using li) (by simpa using lj) h (by rw [List.getElem_map, List.getElem_map, ei, ej, e])).elim
  · exact h
  · exact (z j i (by simpa using lj) (by simpa using li) h (by rw [List.getElem_map, List.getElem_map, ei, ej, e])).elim
structure Tc (σ : Type) where
  G0 : Hh
  W : List Nat
  V : List Nat
  io : σ → List (Nat × O)
structure Hq {σ : Type} (C : Tc σ) (loc : List (Nat × O)) (s : σ) (G : Hh) : Prop where
  keep : Keep C.W C.G0 G
  atL : ∀ p ∈ loc, G[p.1]? = some p.2
  atI : ∀ p ∈ C.io s, G[p.1]? = some p.2
  nd : (loc.map (·.1)).Nodup
  fr : ∀ p ∈ loc, C.G0.length ≤ p.1
  ioW : (C.io s).map (·.1) = C.W
  lt : ∀ w ∈ C.V, w < C.G0.length
  wv : ∀ w ∈ C.W, w ∈ C.V
section
variable {σ A B E : Type} {C : Tc σ} {loc os : List (Nat × O)} {s s' : σ} {G G' : Hh} {p : Nat × O}
theorem Hq.outW (h : Hq C loc s G) (hp : p ∈ loc) : p.1 ∉ C.W := fun hw => by
  have := h.lt _ (h.wv _ hw)
  have := h.fr _ hp
  omega
theorem Hq.kv (h : Hq C loc s G) {G1 G2 : Hh} (k : Keep C.W G1 G2) : Keep C.V G1 G2 := k.more h.wv
theorem Hq.out (h : Hq C loc s G) (hp : p ∈ loc) : p.1 ∉ C.V := fun hw => by
  have := h.lt _ hw
  have := h.fr _ hp
  omega
theorem Hq.lt_ (h : Hq C loc s G) (hp : p ∈ loc) : p.1 < G.length := (List.getElem?_eq_some_iff.mp (h.atL p hp)).1
theorem Hq.drop (h : Hq C (os ++ loc) s G) : Hq C loc s G := ⟨h.keep, fun p hp => h.atL p (List.mem_append_right _ hp), h.atI, by
  have := h.nd
  rw [List.map_append] at this
  exact (List.nodup_append.mp this).2.1, fun p hp => h.fr p (List.mem_append_right _ hp), h.ioW, h.lt, h.wv⟩
theorem Hq.pick (h : Hq C loc s G) (ix : List Nat) (hx : ix.Nodup) : Hq C (ix.filterMap (loc[·]?)) s G := by
  have hm : ∀ p ∈ ix.filterMap (loc[·]?), p ∈ loc := fun p hp => by
    obtain ⟨i, _, e⟩ := List.mem_filterMap.mp hp
    exact List.mem_of_getElem? e
  refine ⟨h.keep, fun p hp => h.atL p (hm p hp), h.atI, ?_, fun p hp => h.fr p (hm p hp), h.ioW, h.lt, h.wv⟩
  have hn := h.nd
  clear h hm
  induction ix with
  | nil => exact List.nodup_nil
  | cons i r ih =>
    rw [List.filterMap_cons]
    have hir := List.nodup_cons.mp hx
    cases e : loc[i]? with
    | none => exact ih hir.2
    | some p =>
      dsimp only
      rw [List.map_cons, List.nodup_cons]
      refine ⟨fun hp => ?_, ih hir.2⟩
      obtain ⟨q, hq, e1⟩ := List.mem_map.mp hp
      obtain ⟨j, hj, e2⟩ := List.mem_filterMap.mp hq
      have hij : i ≠ j := fun z => hir.1 (z ▸ hj)
      exact hij (nd_inj hn e e2 e1.symm)
theorem Hq.step (h : Hq C loc s G) (k : Keep [] G G') : Hq C loc s G' := ⟨h.keep.trans (k.more fun _ z => by cases z), fun p hp => k.get (h.atL p hp) (fun z => by cases z), fun p hp => k.get (h.atI p hp) (fun z => by cases z), h.nd, h.fr, h.ioW, h.lt, h.wv⟩
theorem Hq.own {G1 : Hh} (h : Hq C loc s G') (h1 : ∀ p ∈ loc, p.1 < G1.length) (h2 : ∀ p ∈ os, G1.length ≤ p.1 ∧ G'[p.1]? = some p.2) (h3 : (os.map (·.1)).Nodup) (h4 : C.G0.length ≤ G1.length) : Hq C (os ++ loc) s G' := by
  refine ⟨h.keep, fun p hp => ?_, h.atI, ?_, fun p hp => ?_, h.ioW, h.lt, h.wv⟩
  · rcases List.mem_append.mp hp with hp | hp
    · exact (h2 p hp).2
    · exact h.atL p hp
  · rw [List.map_append]
    refine List.nodup_append.mpr ⟨h3, h.nd, fun a ha b hb e => ?_⟩
    obtain ⟨p, hp, rfl⟩ := List.mem_map.mp ha
    obtain ⟨q, hq, rfl⟩ := List.mem_map.mp hb
    have := (h2 p hp).1
    have := h1 q hq
    omega
  · rcases List.mem_append.mp hp with hp | hp
    · exact Nat.le_trans h4 (h2 p hp).1
    · exact h.fr p hp
theorem Hq.new {o : O} (h : Hq C loc s G) : Hq C ((G.length, o) :: loc) s (G ++ [o]) :=
  (h.step (G' := G ++ [o]) .app).own (os := [(G.length, o)]) (G1 := G) (fun p hp => h.lt_ hp) (fun p hp => by
    have : p = (G.length, o) := by simpa using hp
    subst this
    exact ⟨Nat.le_refl _, by simp⟩) (by simp) h.keep.1
theorem Hq.set {r j : Nat} {o o' : O} (h : Hq C loc s G) (hj : loc[j]? = some (r, o)) : Hq C (loc.set j (r, o')) s (G.set r o') := by
  obtain ⟨lj, ej⟩ := List.getElem?_eq_some_iff.mp hj
  have hmem : (r, o) ∈ loc := List.mem_of_getElem? hj
  have hrl := h.lt_ hmem
  have hfr := h.fr _ hmem
  have hmap : (loc.set j (r, o')).map (·.1) = loc.map (·.1) := by
    rw [List.map_set]
    apply List.ext_getElem?
    intro i
    by_cases hi : j = i
    · subst hi
      rw [List.getElem?_set_self (by simpa using lj), List.getElem?_map, hj]
      rfl
    · rw [List.getElem?_set_ne hi]
  refine ⟨⟨by rw [List.length_set]; exact h.keep.1, fun i h1 h2 => ?_⟩, fun p hp => ?_, fun p hp => ?_, by rw [hmap]; exact h.nd, fun p hp => ?_, h.ioW, h.lt, h.wv⟩
  · have : r ≠ i := by
      have : C.G0.length ≤ r := hfr
      omega
    rw [List.getElem?_set_ne this]
    exact h.keep.2 i h1 h2
  · obtain ⟨i, hi⟩ := List.getElem?_of_mem hp
    by_cases hij : j = i
    · subst hij
      rw [List.getElem?_set_self lj] at hi
      cases hi
      exact List.getElem?_set_self hrl
    · rw [List.getElem?_set_ne hij] at hi
      have hne : r ≠ p.1 := fun e => hij (nd_inj h.nd hj hi e)
      rw [List.getElem?_set_ne hne]
      exact h.atL p (List.mem_of_getElem? hi)
  · have hne : r ≠ p.1 := fun e => by
      have hw : p.1 ∈ C.W := by rw [← h.ioW]; exact List.mem_map_of_mem hp
      have h1 := h.lt _ (h.wv _ hw)
      have h2 : C.G0.length ≤ r := hfr
      omega
    rw [List.getElem?_set_ne hne]
    exact h.atI p hp
  · rcases List.mem_or_eq_of_mem_set hp with h1 | h1
    · exact h.fr p h1
    · subst h1; exact hfr
theorem Hq.base {C' : Tc σ} (h : Hq C' loc s G) (k : Keep C.W C.G0 C'.G0) (hw : C'.W = C.W) (hi : C'.io = C.io) (hl : ∀ w ∈ C.V, w < C.G0.length) (hv : ∀ w ∈ C.W, w ∈ C.V) : Hq C loc s G :=
  ⟨k.trans (hw ▸ h.keep), h.atL, hi ▸ h.atI, h.nd, fun p hp => Nat.le_trans k.1 (h.fr p hp), hw ▸ hi ▸ h.ioW, hl, hv⟩
def RM (C : Tc σ) (loc : List (Nat × O)) (K : Kd A) (G : Hh) (m : Option (Rs D × Hh)) (o : Option (Ro A × σ)) : Prop := match o with
  | none => True
  | some (.val a, s') => ∃ d os G', m = some (.val d, G') ∧ Keep C.W G G' ∧ Hq C (os ++ loc) s' G' ∧ K.rel a d os C.V G'
  | some (.exc x, s') => ∃ e G', m = some (.exc e, G') ∧ Keep C.W G G' ∧ Hq C loc s' G' ∧ RpX x e
theorem RM.val {K : Kd A} {a : A} {d : D} {os : List (Nat × O)} (k : Keep C.W G G') (h : Hq C (os ++ loc) s' G') (r : K.rel a d os C.V G') : RM C loc K G (some (.val d, G')) (some (.val a, s')) := ⟨d, os, G', rfl, k, h, r⟩
theorem RM.here {K : Kd A} {a : A} {d : D} (h : Hq C loc s G) (r : K.rel a d [] C.V G) : RM C loc K G (some (.val d, G)) (some (.val a, s)) := ⟨d, [], G, rfl, .refl, h, r⟩
theorem RM.from {K : Kd A} {G1 : Hh} {m : Option (Rs D × Hh)} {o : Option (Ro A × σ)} (k : Keep C.W G G1) (h : RM C loc K G1 m o) : RM C loc K G m o := by
  match o, h with
  | none, _ => exact True.intro
  | some (.val a, s'), ⟨d, os, G', e, k2, r⟩ => exact ⟨d, os, G', e, k.trans k2, r⟩
  | some (.exc x, s'), ⟨d, G', e, k2, r⟩ => exact ⟨d, G', e, k.trans k2, r⟩
theorem RM.bnd {K1 : Kd A} {K : Kd B} {m : Option (Rs D × Hh)} {t : TM σ A} {k : D → Mm D} {u : A → TM σ B} (h : RM C loc K1 G m (t s)) (hk : ∀ a d os s' G', Hq C (os ++ loc) s' G' → K1.rel a d os C.V G' → Keep C.W G G' → RM C loc K G' (k d G') (u a s')) : RM C loc K G (bnd m k) (bindT t u s) := by
  unfold bindT
  cases e : t s with
  | none => exact True.intro
  | some p =>
    obtain ⟨r, s'⟩ := p
    rw [e] at h
    cases r with
    | val a =>
      obtain ⟨d, os, G', rfl, k1, h1, h2⟩ := h
      rw [bnd_val]
      exact (hk a d os s' G' h1 h2 k1).from k1
    | exc x =>
      obtain ⟨e, G', rfl, k1, h1, h2⟩ := h
      exact ⟨e, G', rfl, k1, h1, h2⟩
end
end FI
set_option maxRecDepth 100000
set_option maxHeartbeats 2000000
namespace FI
open PySem L2
def andT {σ : Type} (t u : TM σ Bool) : TM σ Bool := bindT t fun b => if b = true then u else pureT false
def orT {σ : Type} (t u : TM σ Bool) : TM σ Bool := bindT t fun b => if b = true then pureT true else u
def iteT {σ A : Type} (c : TM σ Bool) (t u : TM σ A) : TM σ A := bindT c fun b => if b = true then t else u
def RB {σ : Type} (C : Tc σ) (loc : List (Nat × O)) (G : Hh) (m : Option (Rs Bool × Hh)) (o : Option (Ro Bool × σ)) : Prop := match o with
  | none => True
  | some (.val a, s') => ∃ G', m = some (.val a, G') ∧ Keep C.W G G' ∧ Hq C loc s' G'
  | some (.exc x, s') => ∃ e G', m = some (.exc e, G') ∧ Keep C.W G G' ∧ Hq C loc s' G' ∧ RpX x e
section
variable {σ A B E X : Type} {C : Tc σ} {loc os : List (Nat × O)} {s s' : σ} {G G' : Hh} {gs : Sg} {f g h : SE} {K : Kd A} {K1 : Kd A} {K2 : Kd B} {K3 : Kd E} {c c' : ST} {t u : TM σ Bool} {a b : Bool}
theorem RB.from {G1 : Hh} {m : Option (Rs Bool × Hh)} {o : Option (Ro Bool × σ)} (k : Keep C.W G G1) (h : RB C loc G1 m o) : RB C loc G m o := by
  match o, h with
  | none, _ => exact True.intro
  | some (.val a, s'), ⟨G', e, k2, r⟩ => exact ⟨G', e, k.trans k2, r⟩
  | some (.exc x, s'), ⟨d, G', e, k2, r⟩ => exact ⟨d, G', e, k.trans k2, r⟩
theorem RB.here (hq : Hq C loc s G) : RB C loc G (some (.val a, G)) (some (.val a, s)) := ⟨G, rfl, .refl, hq⟩
end
structure KdA (X : Type) where
  rel : X → List D → List Nat → Hh → Prop
  sub : ∀ {x ds W W' G}, rel x ds W G → (∀ x ∈ W', x ∈ W) → rel x ds W' G
section
variable {σ A B E X : Type} {C : Tc σ} {loc os : List (Nat × O)} {s s' : σ} {G G' : Hh} {gs : Sg} {f g h : SE} {K : Kd A} {K' : Kd B} {R : KdA X}
def FnC (W : List Nat) (io : σ → List (Nat × O)) (F : Fn) (R : KdA X) (K : Kd B) (foo : X → TM σ B) : Prop := ∀ (V : List Nat) (x : X) (ds : List D) (s : σ) (G : Hh), R.rel x ds V G → Hq ⟨G, W, V, io⟩ [] s G → RM ⟨G, W, V, io⟩ [] K G (F ds G) (foo x s)
end
end FI
set_option maxRecDepth 100000
set_option maxHeartbeats 2000000
namespace FI
open PySem L2
abbrev As (σ : Type) := Sg → σ → Hh → Prop
abbrev Ps (σ Out : Type) := Out → Fl → Sg → σ → Hh → Prop
def RS {σ Out : Type} (C : Tc σ) (post : Ps σ Out) (m : Sm) (o : Option (Ro Out × σ)) : Prop := match o with
  | none => True
  | some (.val a, s') => ∃ fl gs' G', m = some (fl, gs', G') ∧ post a fl gs' s' G'
  | some (.exc x, s') => ∃ e gs' G', m = some (.ex e, gs', G') ∧ Hq C [] s' G' ∧ RpX x e
def SV {σ Out : Type} (C : Tc σ) (A : As σ) (b : SS) (t : TM σ Out) (post : Ps σ Out) : Prop := ∀ gs s G, A gs s G → RS C post (b gs G) (t s)
def Aq {σ : Type} (C : Tc σ) (loc : List (Nat × O)) (gs0 : Sg) : As σ := fun gs s G => gs = gs0 ∧ Hq C loc s G
inductive LO (S B : Type) where
  | nx (s : S)
  | bk (s : S)
  | rt (b : B)
def LO.on {S B R : Type} (o : LO S B) (k : S → R) (r : B → R) : R := match o with
  | .nx s => k s
  | .bk s => k s
  | .rt b => r b
def noX {σ A : Type} (t : TM σ A) : TM σ A := fun s => match t s with
  | some (.exc _, _) => none
  | o => o
section
variable {σ A B E S X Y Out : Type} {C : Tc σ} {loc os lo : List (Nat × O)} {s s' : σ} {G G' : Hh} {gs : Sg} {f g h : SE} {K : Kd A} {post : Ps σ Out} {rest : SS} {AA : As σ}
theorem hq_nil (h : Hq C loc s G) : Hq C [] s G := (show Hq C (loc ++ []) s G by rw [List.append_nil]; exact h).drop
theorem RM.onE {m : Option (Rs D × Hh)} {t : TM σ A} {k : D → Hh → Sm} {u : A → TM σ Out} (h : RM C loc K G m (t s)) (hk : ∀ a d os s' G', Hq C (os ++ loc) s' G' → K.rel a d os C.V G' → Keep C.W G G' → RS C post (k d G') (u a s')) : RS C post (onE m gs k) (bindT t u s) := by
  unfold bindT
  cases e : t s with
  | none => exact True.intro
  | some p =>
    obtain ⟨r, s'⟩ := p
    rw [e] at h
    cases r with
    | val a =>
      obtain ⟨d, os, G', rfl, k1, h1, h2⟩ := h
      rw [onE_val]
      exact hk a d os s' G' h1 h2 k1
    | exc x =>
      obtain ⟨e, G', rfl, k1, h1, h2⟩ := h
      exact ⟨e, gs, G', rfl, hq_nil h1, h2⟩
theorem RB.onE {m : Option (Rs Bool × Hh)} {t : TM σ Bool} {k : Bool → Hh → Sm} {u : Bool → TM σ Out} (h : RB C loc G m (t s)) (hk : ∀ a s' G', Hq C loc s' G' → Keep C.W G G' → RS C post (k a G') (u a s')) : RS C post (onE m gs k) (bindT t u s) := by
  unfold bindT
  cases e : t s with
  | none => exact True.intro
  | some p =>
    obtain ⟨r, s'⟩ := p
    rw [e] at h
    cases r with
    | val a =>
      obtain ⟨G', rfl, k1, h1⟩ := h
      rw [onE_val]
      exact hk a s' G' h1 k1
    | exc x =>
      obtain ⟨e, G', rfl, k1, h1, h2⟩ := h
      exact ⟨e, gs, G', rfl, hq_nil h1, h2⟩
theorem RS.seq {m : Sm} {fl : Fl} {gs1 : Sg} {G1 : Hh} {st : SS} {o} (e : st gs G = some (.nx, gs1, G1)) (h : RS C post (rest gs1 G1) o) : RS C post (bSeq st rest gs G) o := by
  unfold bSeq
  rw [e]
  exact h
theorem Hq.sub (h : Hq C loc s G) {loc' : List (Nat × O)} (hs : List.Sublist loc' loc) : Hq C loc' s G := ⟨h.keep, fun p hp => h.atL p (hs.subset hp), h.atI, h.nd.sublist (hs.map _), fun p hp => h.fr p (hs.subset hp), h.ioW, h.lt, h.wv⟩
theorem Hq.perm (h : Hq C loc s G) {loc' : List (Nat × O)} (hs : List.Perm loc' loc) : Hq C loc' s G := ⟨h.keep, fun p hp => h.atL p (hs.mem_iff.mp hp), h.atI, (hs.map _).nodup_iff.mpr h.nd, fun p hp => h.fr p (hs.mem_iff.mp hp), h.ioW, h.lt, h.wv⟩
theorem Hq.fin {lit T T' : List (Nat × O)} (h : Hq C (lit ++ T) s G) (ix : List Nat) (hx : ix.Nodup) (hT : List.Sublist T' T) : Hq C (ix.filterMap (lit[·]?) ++ T') s G := by
  have h1 : Hq C lit s G := h.sub (List.sublist_append_left _ _)
  have h2 := h1.pick ix hx
  refine ⟨h.keep, fun p hp => ?_, h.atI, ?_, fun p hp => ?_, h.ioW, h.lt, h.wv⟩
  · rcases List.mem_append.mp hp with hp | hp
    · exact h2.atL p hp
    · exact h.atL p (List.mem_append_right _ (hT.subset hp))
  · have hn := h.nd
    rw [List.map_append] at hn ⊢
    obtain ⟨n1, n2, n3⟩ := List.nodup_append.mp hn
    refine List.nodup_append.mpr ⟨h2.nd, n2.sublist (hT.map _), fun a ha b hb => n3 a ?_ b ((hT.map _).subset hb)⟩
    obtain ⟨p, hp, rfl⟩ := List.mem_map.mp ha
    obtain ⟨i, _, e⟩ := List.mem_filterMap.mp hp
    exact List.mem_map_of_mem (List.mem_of_getElem? e)
  · rcases List.mem_append.mp hp with hp | hp
    · exact h2.fr p hp
    · exact h.fr p (List.mem_append_right _ (hT.subset hp))
def appT (l : List A) (a : A) : TM σ (List A) := if l.length < 100000 then pureT (l ++ [a]) else failT
theorem map_set {enc : A → D} {l : List A} {j : Nat} {a : A} : (l.map enc).set j (enc a) = (l.set j a).map enc := by rw [List.map_set]
end
end FI
set_option maxRecDepth 100000
set_option maxHeartbeats 2000000
namespace FI
open PySem L2
inductive All2 {X : Type} (R : X → D → Prop) : List X → List D → Prop
  | nil : All2 R [] []
  | cons {x : X} {d : D} {xs : List X} {ds : List D} : R x d → All2 R xs ds → All2 R (x :: xs) (d :: ds)
def rV {X : Type} (enc : X → D) : X → D → Prop := fun x d => d = enc x
theorem All2.map {X : Type} {enc : X → D} : ∀ xs : List X, All2 (rV enc) xs (xs.map enc)
  | [] => .nil
  | _ :: r => .cons rfl (All2.map r)
theorem All2.length {X : Type} {R : X → D → Prop} : ∀ {xs : List X} {ds : List D}, All2 R xs ds → xs.length = ds.length
  | _, _, .nil => rfl
  | _, _, .cons _ t => by simp [All2.length t]
def enumT {X : Type} (xs : List X) : List (Int × X) := xs.zipIdx.map fun p => ((p.2 : Int), p.1)
section
variable {σ A B E S X Y Out : Type} {C : Tc σ} {loc os lo : List (Nat × O)} {s s' : σ} {G G' : Hh} {gs : Sg} {f g h : SE} {K : Kd A} {post : Ps σ Out} {rest : SS} {AA : As σ}
def U.items : U → Option (List U)
  | .tup us => some us
  | _ => none
def rU (V : List Nat) (G0 : Hh) : U → D → Prop := RpU V G0
end
def forT {σ X S B : Type} (body : X → S → TM σ (LO S B)) : List X → S → TM σ (LO S B)
  | [], st => pureT (.nx st)
  | x :: xs, st => bindT (body x st) fun o => match o with
    | .nx st' => forT body xs st'
    | .bk st' => pureT (.nx st')
    | .rt b => pureT (.rt b)
def forS {σ X S : Type} (body : X → S → TM σ S) : List X → S → TM σ S
  | [], st => pureT st
  | x :: xs, st => bindT (body x st) fun st' => forS body xs st'
end FI
set_option maxRecDepth 100000
set_option maxHeartbeats 2000000
namespace FI
open PySem L2
section
variable {σ A B E S X Y Out : Type} {C : Tc σ} {loc os lo : List (Nat × O)} {s s' : σ} {G G' : Hh} {gs : Sg} {f g h : SE} {K : Kd A} {post : Ps σ Out} {rest : SS} {AA : As σ} {R : X → D → Prop} {tg : GT} {b : SS} {gd : Hh → Prop} {ρ : B → Out}
theorem Hq.again {p : Nat × O} (h : Hq C (p :: loc) s G) (k : Keep C.W G G') (h' : Hq C loc s' G') : Hq C (p :: loc) s' G' :=
  ⟨h'.keep, fun q hq => k.get (h.atL q hq) (h.outW hq), h'.atI, h.nd, h.fr, h'.ioW, h'.lt, h'.wv⟩
def postF (C : Tc σ) (P : B → D → List (Nat × O) → List Nat → Hh → Hh → Prop) : Ps σ B := fun b fl gs s G => ∃ d os loc, (fl = .rt d ∨ (fl = .nx ∧ d = .non)) ∧ Hq C (os ++ loc) s G ∧ P b d os C.V C.G0 G
def RetOk (K : Kd B) (P : B → D → List (Nat × O) → List Nat → Hh → Hh → Prop) : Prop := ∀ (σ : Type) (C : Tc σ) (b : B) (d : D) (os loc : List (Nat × O)) (s : σ) (G : Hh), Hq C (os ++ loc) s G → P b d os C.V C.G0 G → ∃ d' os' G', slim C.G0 (some (.val d, G)) = some (.val d', G') ∧ Keep C.W C.G0 G' ∧ Hq C (os' ++ []) s G' ∧ K.rel b d' os' C.V G'
theorem Hq.take (h : Hq C loc s G) : Hq C [] s (G.take C.G0.length) := by
  have hk : ∀ i, i < C.G0.length → (G.take C.G0.length)[i]? = G[i]? := fun i hi => List.getElem?_take_of_lt hi
  refine ⟨⟨by rw [List.length_take]; have := h.keep.1; omega, fun i h1 h2 => by rw [hk i h1]; exact h.keep.2 i h1 h2⟩, (fun _ h => nomatch h), fun p hp => ?_, List.nodup_nil, (fun _ h => nomatch h), h.ioW, h.lt, h.wv⟩
  have hw : p.1 ∈ C.W := by rw [← h.ioW]; exact List.mem_map_of_mem hp
  rw [hk _ (h.lt _ (h.wv _ hw))]
  exact h.atI p hp
theorem FnC.of {F : Fn} {W : List Nat} {io : σ → List (Nat × O)} {R : KdA X} {K : Kd B} {foo : X → TM σ B} {P : B → D → List (Nat × O) → List Nat → Hh → Hh → Prop} {n : Nat} {b : SS} {Bd : List D → Option (List D)} (hP : RetOk K P) (hF : F = mkFnB Bd n b)
    (h : ∀ V x ds G, R.rel x ds V G → ∃ es, Bd ds = some es ∧ SV ⟨G, W, V, io⟩ (Aq ⟨G, W, V, io⟩ [] (start0 n es)) b (foo x) (postF ⟨G, W, V, io⟩ P)) : FnC W io F R K foo := fun V x ds s G hr hq => by
  obtain ⟨es, e1, hb⟩ := h V x ds G hr
  have z := hb _ s G ⟨rfl, hq⟩
  subst hF
  unfold mkFnB
  rw [e1]
  dsimp only
  unfold runB
  cases e : foo x s with
  | none => exact True.intro
  | some p =>
    obtain ⟨o, s1⟩ := p
    rw [e] at z
    cases o with
    | exc y =>
      obtain ⟨e, gs', G', e2, q, r⟩ := z
      rw [e2]
      have h : slim G (some (.exc e, G')) = some (.exc e, G'.take G.length) ∨ slim G (some (.exc e, G')) = some (.exc e, G') := by
        unfold slim
        dsimp only
        split
        · exact .inl rfl
        · exact .inr rfl
      rcases h with h | h
      · exact ⟨e, _, h, q.take.keep, q.take, r⟩
      · exact ⟨e, _, h, q.keep, q, r⟩
    | val v =>
      obtain ⟨fl, gs', G', e2, d, os, loc, hfl, q, hp⟩ := z
      obtain ⟨d', os', G'', e3, k, q3, r3⟩ := hP σ ⟨G, W, V, io⟩ v d os loc s1 G' q hp
      rw [e2]
      rcases hfl with rfl | ⟨rfl, rfl⟩
      · exact ⟨d', os', G'', e3, k, q3, r3⟩
      · exact ⟨d', os', G'', e3, k, q3, r3⟩
def mkXc (c : Nat) (fln : List (Nat × Nat)) (us : List U) : Xc := ⟨c, (fln.map fun p => (p.1, us.getD (p.2 - 1) .non)).reverse⟩
inductive AllU : List U → List D → Prop
  | nil : AllU [] []
  | cons {u : U} {d : D} {us : List U} {ds : List D} : RpFd u d → AllU us ds → AllU (u :: us) (d :: ds)
theorem AllU.getD : ∀ {us : List U} {ds : List D}, AllU us ds → ∀ i, RpFd (us.getD i .non) (ds.getD i .non)
  | _, _, .nil, i => by
    rw [List.getD_nil, List.getD_nil]
    exact fun d' e => by cases e; rfl
  | _, _, .cons a b, 0 => a
  | _, _, .cons a b, i + 1 => by simpa using b.getD i
theorem RpFs.append : ∀ {us vs : List (Nat × U)} {ds es : List (Nat × D)}, RpFs us ds → RpFs vs es → RpFs (us ++ vs) (ds ++ es)
  | _, _, _, _, .nil, h => h
  | _, _, _, _, .cons a b, h => .cons a (RpFs.append b h)
theorem RpFs.reverse : ∀ {us : List (Nat × U)} {ds : List (Nat × D)}, RpFs us ds → RpFs us.reverse ds.reverse
  | _, _, .nil => .nil
  | _, _, .cons a b => by
    rw [List.reverse_cons, List.reverse_cons]
    exact (RpFs.reverse b).append (.cons a .nil)
theorem RpX.mk {c : Nat} {fln : List (Nat × Nat)} {us : List U} {ds : List D} (h : AllU us ds) : RpX (mkXc c fln us) (mkEx c fln ds) := by
  refine ⟨rfl, RpFs.reverse ?_⟩
  induction fln with
  | nil => exact .nil
  | cons p r ih => exact .cons (h.getD _) ih
end
end FI
set_option maxRecDepth 100000
set_option maxHeartbeats 2000000
namespace FI
open PySem L2
abbrev eN : Unit → D := fun _ => .non
abbrev eO {A : Type} (e : A → D) : Option A → D := fun o => match o with
  | none => .non
  | some a => e a
abbrev eT {A : Type} (e : A → D) : List A → D := fun l => .tup (l.map e)
abbrev e1 {A : Type} (a : A → D) : A → D := fun p => .tup [a p]
abbrev e2 {A B : Type} (a : A → D) (b : B → D) : A × B → D := fun p => .tup [a p.1, b p.2]
abbrev e3 {A B E : Type} (a : A → D) (b : B → D) (c : E → D) : A × B × E → D := fun p => .tup [a p.1, b p.2.1, c p.2.2]
abbrev e4 {A B E F : Type} (a : A → D) (b : B → D) (c : E → D) (d : F → D) : A × B × E × F → D := fun p => .tup [a p.1, b p.2.1, c p.2.2.1, d p.2.2.2]
abbrev uN : Unit → U := fun _ => .non
abbrev uO {A : Type} (u : A → U) : Option A → U := fun o => match o with
  | none => .non
  | some a => u a
abbrev uT {A : Type} (u : A → U) : List A → U := fun l => .tup (l.map u)
abbrev u1 {A : Type} (a : A → U) : A → U := fun p => .tup [a p]
abbrev u2 {A B : Type} (a : A → U) (b : B → U) : A × B → U := fun p => .tup [a p.1, b p.2]
abbrev u3 {A B E : Type} (a : A → U) (b : B → U) (c : E → U) : A × B × E → U := fun p => .tup [a p.1, b p.2.1, c p.2.2]
abbrev u4 {A B E F : Type} (a : A → U) (b : B → U) (c : E → U) (d : F → U) : A × B × E × F → U := fun p => .tup [a p.1, b p.2.1, c p.2.2.1, d p.2.2.2]
def UE {A : Type} (u : A → U) (e : A → D) : Prop := ∀ W G a, RpU W G (u a) (e a)
section
variable {A B E F : Type} {a : A → U} {b : B → U} {c : E → U} {d : F → U} {x : A → D} {y : B → D} {z : E → D} {w : F → D}
theorem UE.n : UE uN eN := fun _ _ _ => .non
theorem UE.i : UE U.int D.int := fun _ _ i => .int i
theorem UE.s : UE U.str D.str := fun _ _ i => .str i
theorem UE.o (h : UE a x) : UE (uO a) (eO x) := fun W G o => by
  cases o with
  | none => exact .non
  | some v => exact h W G v
theorem UE.ts (h : UE a x) {W : List Nat} {G : Hh} : ∀ l : List A, RpUs W G (l.map a) (l.map x)
  | [] => .nil
  | v :: r => .cons (h W G v) (UE.ts h r)
theorem UE.t (h : UE a x) : UE (uT a) (eT x) := fun W G l => .tup (h.ts l)
theorem UE.t1 (h : UE a x) : UE (u1 a) (e1 x) := fun W G p => .tup (.cons (h W G _) .nil)
theorem UE.t2 (h : UE a x) (h2 : UE b y) : UE (u2 a b) (e2 x y) := fun W G p => .tup (.cons (h W G _) (.cons (h2 W G _) .nil))
theorem UE.t3 (h : UE a x) (h2 : UE b y) (h3 : UE c z) : UE (u3 a b c) (e3 x y z) := fun W G p => .tup (.cons (h W G _) (.cons (h2 W G _) (.cons (h3 W G _) .nil)))
theorem UE.t4 (h : UE a x) (h2 : UE b y) (h3 : UE c z) (h4 : UE d w) : UE (u4 a b c d) (e4 x y z w) := fun W G p => .tup (.cons (h W G _) (.cons (h2 W G _) (.cons (h3 W G _) (.cons (h4 W G _) .nil))))
end
def cI : U → Option Int
  | .int i => some i
  | _ => none
def cS : U → Option Str
  | .str i => some i
  | _ => none
def optAllO {A : Type} : List (Option A) → Option (List A)
  | [] => some []
  | some a :: r => (optAllO r).map (a :: ·)
  | none :: _ => none
def cT {A : Type} (c : U → Option A) : U → Option (List A)
  | .tup us => optAllO (us.map c)
  | _ => none
def c2 {A B : Type} (a : U → Option A) (b : U → Option B) : U → Option (A × B)
  | .tup [u, v] => match a u, b v with
    | some x, some y => some (x, y)
    | _, _ => none
  | _ => none
def c3 {A B E : Type} (a : U → Option A) (b : U → Option B) (c : U → Option E) : U → Option (A × B × E)
  | .tup [u, v, w] => match a u, b v, c w with
    | some x, some y, some z => some (x, y, z)
    | _, _, _ => none
  | _ => none
def CE {A : Type} (c : U → Option A) (e : A → D) : Prop := ∀ W G u d a, c u = some a → RpU W G u d → d = e a
section
variable {A B E : Type} {a : U → Option A} {b : U → Option B} {c : U → Option E} {x : A → D} {y : B → D} {z : E → D}
theorem CE.i : CE cI D.int := fun W G u d a h r => by
  cases r <;> first | (cases h; rfl) | cases h
theorem CE.s : CE cS D.str := fun W G u d a h r => by
  cases r <;> first | (cases h; rfl) | cases h
theorem CE.ts (h : CE a x) {W : List Nat} {G : Hh} : ∀ {us : List U} {ds : List D} {l : List A}, optAllO (us.map a) = some l → RpUs W G us ds → ds = l.map x
  | _, _, _, e, .nil => by cases e; rfl
  | u :: us, _, l, e, .cons r t => by
    rw [List.map_cons] at e
    cases e1 : a u with
    | none => rw [e1] at e; cases e
    | some v =>
      rw [e1] at e
      have e' : (optAllO (us.map a)).map (v :: ·) = some l := e
      cases e2 : optAllO (us.map a) with
      | none => rw [e2] at e'; cases e'
      | some l2 =>
        rw [e2] at e'
        cases e'
        rw [h W G u _ v e1 r, CE.ts h e2 t]
        rfl
theorem CE.t (h : CE a x) : CE (cT a) (eT x) := fun W G u d l e r => by
  cases r with
  | tup rs => rw [CE.ts h e rs]
  | _ => cases e
theorem CE.t2 (h : CE a x) (h2 : CE b y) : CE (c2 a b) (e2 x y) := fun W G u d l e r => by
  cases r with
  | @tup us ds rs =>
    unfold c2 at e
    split at e
    · rename_i u v heq
      cases heq
      cases rs with
      | cons r1 t =>
        cases t with
        | cons r2 t =>
          cases t
          split at e
          · rename_i p q h3 h4
            cases e
            rw [h W G _ _ _ h3 r1, h2 W G _ _ _ h4 r2]
          · cases e
    · cases e
  | _ => cases e
theorem CE.t3 (h : CE a x) (h2 : CE b y) (h3 : CE c z) : CE (c3 a b c) (e3 x y z) := fun W G u d l e r => by
  cases r with
  | @tup us ds rs =>
    unfold c3 at e
    split at e
    · rename_i u v heq
      cases heq
      cases rs with
      | cons r1 t =>
        cases t with
        | cons r2 t =>
          cases t with
          | cons r3 t =>
            cases t
            split at e
            · rename_i p q o h4 h5 h6
              cases e
              rw [h W G _ _ _ h4 r1, h2 W G _ _ _ h5 r2, h3 W G _ _ _ h6 r3]
            · cases e
    · cases e
  | _ => cases e
end
section
variable {σ A B E S X Y Out : Type} {C : Tc σ} {loc os lo : List (Nat × O)} {s s' : σ} {G G' : Hh} {gs : Sg} {f g h : SE} {K : Kd A} {post : Ps σ Out} {rest : SS}
def srtK (k : A → List Int) (l : List A) : List A := l.mergeSort fun a b => leT (k a) (k b)
theorem srtK_map {k : A → List Int} {l : List A} : (srtK k l).map k = sortT (l.map k) := by
  unfold srtK sortT
  exact List.map_mergeSort fun a _ b _ => rfl
theorem srtK_perm {k : A → List Int} {l : List A} : (srtK k l).Perm l := List.mergeSort_perm _ _
def RO (C : Tc σ) (loc : List (Nat × O)) (G : Hh) (m : Option (Rs (Option Int) × Hh)) (o : Option (Ro (Option Int) × σ)) : Prop := match o with
  | none => True
  | some (.val a, s') => ∃ G', m = some (.val a, G') ∧ Keep C.W G G' ∧ Hq C loc s' G'
  | some (.exc x, s') => ∃ e G', m = some (.exc e, G') ∧ Keep C.W G G' ∧ Hq C loc s' G' ∧ RpX x e
theorem RO.bnd {K' : Kd B} {m : Option (Rs (Option Int) × Hh)} {t : TM σ (Option Int)} {k : Option Int → Mm D} {u : Option Int → TM σ B} (h : RO C loc G m (t s)) (hk : ∀ a s' G', Hq C loc s' G' → Keep C.W G G' → RM C loc K' G' (k a G') (u a s')) : RM C loc K' G (bnd m k) (bindT t u s) := by
  unfold bindT
  cases e : t s with
  | none => exact True.intro
  | some p =>
    obtain ⟨r, s'⟩ := p
    rw [e] at h
    cases r with
    | val a =>
      obtain ⟨G', rfl, k1, h1⟩ := h
      rw [bnd_val]
      exact (hk a s' G' h1 k1).from k1
    | exc x =>
      obtain ⟨e, G', rfl, k1, h1, h2⟩ := h
      exact ⟨e, G', rfl, k1, h1, h2⟩
def U.cut : U → Option Int → Option Int → Option U
  | .tup us, lo, hi => some (.tup (cutL us lo hi))
  | _, _, _ => none
theorem RpUs.length {V : List Nat} {G0 : Hh} : ∀ {us : List U} {ds : List D}, RpUs V G0 us ds → us.length = ds.length
  | _, _, .nil => rfl
  | _, _, .cons _ t => by simp [RpUs.length t]
theorem RpUs.drop {V : List Nat} {G0 : Hh} : ∀ {us : List U} {ds : List D} (n : Nat), RpUs V G0 us ds → RpUs V G0 (us.drop n) (ds.drop n)
  | _, _, 0, h => h
  | _, _, _ + 1, .nil => .nil
  | _, _, n + 1, .cons _ t => RpUs.drop n t
theorem RpUs.take {V : List Nat} {G0 : Hh} : ∀ {us : List U} {ds : List D} (n : Nat), RpUs V G0 us ds → RpUs V G0 (us.take n) (ds.take n)
  | _, _, 0, _ => .nil
  | _, _, _ + 1, .nil => .nil
  | _, _, n + 1, .cons a t => .cons a (RpUs.take n t)
theorem RpUs.cut {V : List Nat} {G0 : Hh} {us : List U} {ds : List D} (lo hi : Option Int) (h : RpUs V G0 us ds) : RpUs V G0 (cutL us lo hi) (cutL ds lo hi) := by
  unfold cutL
  rw [h.length]
  exact (h.drop _).take _
end
end FI
set_option maxRecDepth 100000
set_option maxHeartbeats 2000000
namespace FI
open PySem L2
structure QE {A : Type} [DecidableEq A] (e : A → D) (p : A → PyData) (ok : A → Bool) (n : Nat) : Prop where
  rp : ∀ a G k, ok a = true → n ≤ k → Rp G k (e a) (p a)
  eq : ∀ a b, PyData.eqv (p a) (p b) = decide (a = b)
  pos : 1 ≤ n
def sOk (s : Str) : Bool := PyData.canLay0 (.str s)
def yes {A : Type} : A → Bool := fun _ => true
section
variable {A B E : Type} [DecidableEq A] [DecidableEq B] [DecidableEq E] {e : A → D} {p : A → PyData} {ok : A → Bool} {n m l : Nat} {e' : B → D} {p' : B → PyData} {ok' : B → Bool} {e'' : E → D} {p'' : E → PyData} {ok'' : E → Bool}
theorem QE.int : QE D.int PyData.int yes 1 := ⟨fun a G k _ h => by
  obtain ⟨j, rfl⟩ := Nat.exists_eq_add_of_le' h
  exact Rp.int a, fun a b => by
  unfold PyData.eqv
  by_cases h : a = b <;> simp [h], Nat.le_refl _⟩
theorem QE.bl : QE D.bl PyData.bool yes 1 := ⟨fun a G k _ h => by
  obtain ⟨j, rfl⟩ := Nat.exists_eq_add_of_le' h
  exact Rp.bl a, fun a b => by
  unfold PyData.eqv
  cases a <;> cases b <;> rfl, Nat.le_refl _⟩
theorem QE.str : QE D.str PyData.str sOk 1 := ⟨fun a G k hk h => by
  obtain ⟨j, rfl⟩ := Nat.exists_eq_add_of_le' h
  exact Rp.str hk, fun a b => by
  unfold PyData.eqv
  by_cases h : a = b <;> simp [h], Nat.le_refl _⟩
theorem QE.non : QE eN (fun _ => PyData.none) yes 1 := ⟨fun a G k _ h => by
  obtain ⟨j, rfl⟩ := Nat.exists_eq_add_of_le' h
  exact Rp.non, fun a b => by simp [PyData.eqv], Nat.le_refl _⟩
theorem RpAll.mapQ (q : QE e p ok n) {G : Hh} {k : Nat} (hk : n ≤ k) : ∀ {xs : List A}, xs.all ok = true → RpAll G k (xs.map e) (xs.map p)
  | [], _ => .nil
  | x :: r, h => by
    rw [List.all_cons, Bool.and_eq_true] at h
    exact .cons (q.rp x G k h.1 hk) (RpAll.mapQ q hk h.2)
theorem eqvAll_map (q : QE e p ok n) : ∀ (xs ys : List A), PyData.eqvAll (xs.map p) (ys.map p) = decide (xs = ys)
  | [], [] => rfl
  | [], _ :: _ => rfl
  | _ :: _, [] => rfl
  | x :: xs, y :: ys => by
    show (PyData.eqv (p x) (p y) && PyData.eqvAll (xs.map p) (ys.map p)) = _
    rw [q.eq, eqvAll_map q xs ys]
    by_cases h : x = y <;> simp [h]
theorem QE.t (q : QE e p ok n) : QE (eT e) (fun l => PyData.tuple (l.map p)) (fun l => l.all ok) (n + 1) := ⟨fun a G k hk h => by
  obtain ⟨j, rfl⟩ := Nat.exists_eq_add_of_le' (Nat.le_trans (Nat.succ_le_succ q.pos) h)
  exact Rp.tup (RpAll.mapQ q (by have := q.pos; omega) hk), fun a b => eqvAll_map q a b, by omega⟩
theorem QE.t1 (q : QE e p ok n) : QE (e1 e) (fun a => PyData.tuple [p a]) ok (n + 1) := ⟨fun a G k hk h => by
  obtain ⟨j, rfl⟩ := Nat.exists_eq_add_of_le' (Nat.le_trans (Nat.succ_le_succ q.pos) h)
  exact Rp.tup (.cons (q.rp a G _ hk (by have := q.pos; omega)) .nil), fun a b => by
  show (PyData.eqv (p a) (p b) && true) = _
  rw [q.eq, Bool.and_true], by omega⟩
theorem QE.t2 (q : QE e p ok n) (q' : QE e' p' ok' m) : QE (e2 e e') (fun a => PyData.tuple [p a.1, p' a.2]) (fun a => ok a.1 && ok' a.2) (n + m) := ⟨fun a G k hk h => by
  have h1 := q.pos
  have h2 := q'.pos
  obtain ⟨j, rfl⟩ := Nat.exists_eq_add_of_le' (show 2 ≤ k by omega)
  rw [Bool.and_eq_true] at hk
  exact Rp.tup (.cons (q.rp _ G _ hk.1 (by omega)) (.cons (q'.rp _ G _ hk.2 (by omega)) .nil)), fun a b => by
  show (PyData.eqv (p a.1) (p b.1) && (PyData.eqv (p' a.2) (p' b.2) && true)) = _
  rw [q.eq, q'.eq, Bool.and_true]
  obtain ⟨a1, a2⟩ := a
  obtain ⟨b1, b2⟩ := b
  by_cases h1 : a1 = b1 <;> by_cases h2 : a2 = b2 <;> simp [h1, h2], by have := q.pos; omega⟩
theorem QE.t3 (q : QE e p ok n) (q' : QE e' p' ok' m) (q'' : QE e'' p'' ok'' l) : QE (e3 e e' e'') (fun a => PyData.tuple [p a.1, p' a.2.1, p'' a.2.2]) (fun a => ok a.1 && (ok' a.2.1 && ok'' a.2.2)) (n + m + l) := ⟨fun a G k hk h => by
  have h1 := q.pos
  have h2 := q'.pos
  have h3 := q''.pos
  obtain ⟨j, rfl⟩ := Nat.exists_eq_add_of_le' (show 2 ≤ k by omega)
  rw [Bool.and_eq_true, Bool.and_eq_true] at hk
  exact Rp.tup (.cons (q.rp _ G _ hk.1 (by omega)) (.cons (q'.rp _ G _ hk.2.1 (by omega)) (.cons (q''.rp _ G _ hk.2.2 (by omega)) .nil))), fun a b => by
  show (PyData.eqv (p a.1) (p b.1) && (PyData.eqv (p' a.2.1) (p' b.2.1) && (PyData.eqv (p'' a.2.2) (p'' b.2.2) && true))) = _
  rw [q.eq, q'.eq, q''.eq, Bool.and_true]
  obtain ⟨a1, a2, a3⟩ := a
  obtain ⟨b1, b2, b3⟩ := b
  by_cases h1 : a1 = b1 <;> by_cases h2 : a2 = b2 <;> by_cases h3 : a3 = b3 <;> simp [h1, h2, h3], by have := q.pos; omega⟩
theorem QE.o (q : QE e p ok n) (hn : ∀ a, PyData.eqv .none (p a) = false ∧ PyData.eqv (p a) .none = false) : QE (eO e) (fun o => match o with | none => PyData.none | some a => p a) (fun o => match o with | none => true | some a => ok a) n := ⟨fun a G k hk h => by
  cases a with
  | none =>
    obtain ⟨j, rfl⟩ := Nat.exists_eq_add_of_le' (Nat.le_trans q.pos h)
    exact Rp.non
  | some a => exact q.rp a G k hk h, fun a b => by
  cases a with
  | none => cases b with
    | none => rfl
    | some b => simpa using (hn b).1
  | some a => cases b with
    | none => simpa using (hn a).2
    | some b => simpa using q.eq a b, q.pos⟩
end
section
variable {σ A B E S X Y Out : Type} {C : Tc σ} {loc os lo : List (Nat × O)} {s s' : σ} {G G' : Hh} {gs : Sg} {f g h : SE} {K : Kd A} {post : Ps σ Out} {rest : SS} {fa : SA} {R : KdA X}
section
variable [DecidableEq A] {e : A → D} {p : A → PyData} {ok : A → Bool} {n : Nat}
def eqO (ok : A → Bool) (a b : A) : Option Bool := if (ok a && ok b) = true then some (decide (a = b)) else none
end
def U.at : U → Int → Option U
  | .tup us, i => atI us i
  | _, _ => none
def U.len : U → Option Int
  | .tup us => some us.length
  | .lst us => some us.length
  | .str s => if s.length ≤ 100000 then some (s.length : Int) else none
  | _ => none
theorem RpUs.get {V : List Nat} {G0 : Hh} : ∀ {us : List U} {ds : List D} {i : Nat} {u : U}, RpUs V G0 us ds → us[i]? = some u → ∃ d, ds[i]? = some d ∧ RpU V G0 u d
  | _, _, _, _, .nil, h => by simp at h
  | _, _, 0, _, .cons a _, h => by cases h; exact ⟨_, rfl, a⟩
  | _, _, i + 1, _, .cons _ t, h => by simpa using t.get (i := i) (by simpa using h)
def U.isT : U → Bool
  | .tup _ => true
  | _ => false
def U.isI : U → Bool
  | .int _ => true
  | .bl _ => true
  | _ => false
def U.isB : U → Bool
  | .bl _ => true
  | _ => false
def Kp (b : SS) : Prop := ∀ gs G fl gs' G', b gs G = some (fl, gs', G') → gs' = gs
theorem RpFs.lookup {k : Nat} : ∀ {us : List (Nat × U)} {ds : List (Nat × D)}, RpFs us ds → ∀ {u}, us.lookup k = some u → ∃ d, ds.lookup k = some d ∧ RpFd u d
  | _, _, .nil, _, h => by cases h
  | _, _, .cons (n := n) a b, u, h => by
    rw [List.lookup_cons] at h ⊢
    cases hk : k == n with
    | true => rw [hk] at h; cases h; exact ⟨_, rfl, a⟩
    | false => rw [hk] at h; exact b.lookup h
end
end FI
set_option maxRecDepth 100000
set_option maxHeartbeats 2000000
namespace FI
open PySem L2
theorem UE.fd {A : Type} {u : A → U} {e : A → D} (h : UE u e) (a : A) : RpFd (u a) (e a) := fun _ z => RpU.toD (h [] [] a) z
theorem RpU.fd {W : List Nat} {G : Hh} {u : U} {d : D} (h : RpU W G u d) : RpFd u d := fun _ z => RpU.toD h z
end FI
set_option maxRecDepth 100000
set_option maxHeartbeats 2000000
namespace FI
open PySem L2
section
variable {σ A B E S X Y : Type}
@[simp] theorem bindT_pure_ {a : A} {k : A → TM σ B} : bindT (pureT a) k = k a := id rfl
@[simp] theorem bindT_raise_ {x : Xc} {k : A → TM σ B} : bindT (raiseT x) k = raiseT x := id rfl
@[simp] theorem bindT_fail_ {k : A → TM σ B} : bindT failT k = failT := id rfl
@[simp] theorem bindT_assoc_ {t : TM σ A} {k : A → TM σ B} {l : B → TM σ E} : bindT (bindT t k) l = bindT t fun a => bindT (k a) l := bindT_assoc
@[simp] theorem bindT_ret_ {t : TM σ A} : (bindT t fun a => pureT a) = t := bindT_ret
@[simp] theorem optT_some {a : A} : (optT (some a) : TM σ A) = pureT a := id rfl
@[simp] theorem optT_none : (optT none : TM σ A) = failT := id rfl
@[simp] theorem liftT_pure_ {a : A} : liftT (pureT a) = (pureT a : TM σ A) := id rfl
@[simp] theorem liftT_raise_ {x : Xc} : liftT (raiseT x) = (raiseT x : TM σ A) := id rfl
@[simp] theorem andT_pure {b : Bool} {u : TM σ Bool} : andT (pureT b) u = if b = true then u else pureT false := id rfl
@[simp] theorem orT_pure {b : Bool} {u : TM σ Bool} : orT (pureT b) u = if b = true then pureT true else u := id rfl
@[simp] theorem iteT_pure {b : Bool} {t u : TM σ A} : iteT (pureT b) t u = if b = true then t else u := id rfl
@[simp] theorem andT_ite {p : Prop} [Decidable p] {c d u : TM σ Bool} : andT (if p then c else d) u = if p then andT c u else andT d u := by split <;> rfl
@[simp] theorem orT_ite {p : Prop} [Decidable p] {c d u : TM σ Bool} : orT (if p then c else d) u = if p then orT c u else orT d u := by split <;> rfl
@[simp] theorem noX_pure {a : A} : noX (pureT a) = (pureT a : TM σ A) := id rfl
@[simp] theorem LO_on_nx {S B R : Type} {st : S} {k : S → R} {r : B → R} : (LO.nx st : LO S B).on k r = k st := id rfl
@[simp] theorem LO_on_rt {S B R : Type} {b : B} {k : S → R} {r : B → R} : (LO.rt b : LO S B).on k r = r b := id rfl
@[simp] theorem pure_ite {p : Prop} [Decidable p] {a b : A} : (if p then pureT a else pureT b) = (pureT (if p then a else b) : TM σ A) := by split <;> rfl
@[simp] theorem forT_nil {body : X → S → TM σ (LO S B)} {st : S} : forT body [] st = pureT (.nx st) := id rfl
@[simp] theorem forS_nil {body : X → S → TM σ S} {st : S} : forS body [] st = pureT st := id rfl
def rngI (lo hi : Int) : List Int := (List.range (hi - lo).toNat).map fun i : Nat => lo + i
theorem rngI_len {lo hi : Int} : (rngI lo hi).length = (hi - lo).toNat := by simp [rngI]
theorem mem_rngI {lo hi x : Int} : x ∈ rngI lo hi ↔ lo ≤ x ∧ x < hi := by
  unfold rngI
  rw [List.mem_map]
  constructor
  · rintro ⟨i, hi, rfl⟩
    have := List.mem_range.mp hi
    omega
  · rintro ⟨h1, h2⟩
    exact ⟨(x - lo).toNat, List.mem_range.mpr (by omega), by omega⟩
def wb (t : TM σ A) (s : σ) (Q : A → σ → Prop) : Prop := ∃ a s', t s = some (.val a, s') ∧ Q a s'
variable {s s' : σ} {Q : A → σ → Prop}
@[simp] theorem wb_pure {a : A} : wb (pureT a) s Q ↔ Q a s := ⟨fun ⟨_, _, e, q⟩ => by cases e; exact q, fun q => ⟨a, s, rfl, q⟩⟩
@[simp] theorem wb_fail : wb (failT : TM σ A) s Q ↔ False := ⟨fun ⟨_, _, e, _⟩ => (by cases e), False.elim⟩
@[simp] theorem wb_bind {t : TM σ B} {k : B → TM σ A} : wb (bindT t k) s Q ↔ wb t s fun b s' => wb (k b) s' Q := by
  constructor
  · rintro ⟨a, s2, e, q⟩
    unfold bindT at e
    cases e1 : t s with
    | none => rw [e1] at e; cases e
    | some p =>
      obtain ⟨r, s1⟩ := p
      rw [e1] at e
      cases r with
      | exc x => cases e
      | val b => exact ⟨b, s1, e1, a, s2, e, q⟩
  · rintro ⟨b, s1, e1, a, s2, e2, q⟩
    refine ⟨a, s2, ?_, q⟩
    unfold bindT
    rw [e1]
    exact e2
@[simp] theorem wb_noX {t : TM σ A} : wb (noX t) s Q ↔ wb t s Q := by
  constructor
  · rintro ⟨a, s', e, q⟩
    unfold noX at e
    cases e1 : t s with
    | none => rw [e1] at e; cases e
    | some p =>
      obtain ⟨r, s1⟩ := p
      rw [e1] at e
      cases r with
      | exc x => cases e
      | val b => cases e; exact ⟨a, s', e1, q⟩
  · rintro ⟨a, s', e, q⟩
    refine ⟨a, s', ?_, q⟩
    unfold noX
    rw [e]
theorem wb_ite {p : Prop} [Decidable p] {t u : TM σ A} : wb (if p then t else u) s Q ↔ if p then wb t s Q else wb u s Q := by split <;> rfl
@[simp] theorem wb_iteT {c : TM σ Bool} {t u : TM σ A} : wb (iteT c t u) s Q ↔ wb c s fun b s' => if b = true then wb t s' Q else wb u s' Q := by
  unfold iteT
  rw [wb_bind]
  simp only [wb_ite]
@[simp] theorem wb_andT {t u : TM σ Bool} {Q : Bool → σ → Prop} : wb (andT t u) s Q ↔ wb t s fun b s' => if b = true then wb u s' Q else Q false s' := by
  unfold andT
  rw [wb_bind]
  simp only [wb_ite, wb_pure]
@[simp] theorem wb_orT {t u : TM σ Bool} {Q : Bool → σ → Prop} : wb (orT t u) s Q ↔ wb t s fun b s' => if b = true then Q true s' else wb u s' Q := by
  unfold orT
  rw [wb_bind]
  simp only [wb_ite, wb_pure]
@[simp] theorem wb_app {l : List B} {a : B} {Q : List B → σ → Prop} : wb (appT l a) s Q ↔ l.length < 100000 ∧ Q (l ++ [a]) s := by
  unfold appT
  by_cases h : l.length < 100000 <;> simp [h]
end
end FI
set_option maxRecDepth 100000
set_option maxHeartbeats 2000000
set_option maxRecDepth 100000
set_option maxHeartbeats 2000000
set_option maxRecDepth 100000
set_option maxHeartbeats 2000000
namespace FI
open PySem L2
section
variable {σ A B S X Y Out : Type} {C : Tc σ} {loc : List (Nat × O)} {s s' : σ} {G G' : Hh} {gs : Sg} {post : Ps σ Out} {rest : SS}
def KpX (b : SS) : Prop := ∀ gs G x gs' G', b gs G = some (.ex x, gs', G') → gs' = gs
theorem Kp.x {b : SS} (h : Kp b) : KpX b := fun gs G x gs' G' e => h gs G _ gs' G' e
end
end FI
set_option maxRecDepth 100000
set_option maxHeartbeats 2000000
set_option maxRecDepth 100000
set_option maxHeartbeats 2000000
set_option maxRecDepth 100000
set_option maxHeartbeats 2000000
set_option maxRecDepth 100000
set_option maxHeartbeats 2000000
set_option maxRecDepth 100000
set_option maxHeartbeats 2000000
set_option maxRecDepth 100000
set_option maxHeartbeats 4000000
namespace FI.K00
open PySem L2 PySem.Spec PyProof.Rows FI
theorem okR_small {i : Int} (h : -100000 ≤ i ∧ i ≤ 100000) : okR i = true := decide_eq_true (by omega)
theorem wRng1_eq {fa : SA} {gs : Sg} {G G1 : Hh} {j : Int} (h : fa gs G = some (.val [.int j], G1)) (hj : -100000 ≤ j ∧ j ≤ 100000) : wRng1 fa gs G = some (.val (rngD 0 j.toNat, anyH), G1) := by
  unfold wRng1
  rw [h, bnd_val]
  show (if okR j = true then _ else _) = _
  rw [if_pos (okR_small hj)]
theorem rngD_get {lo : Int} {n i : Nat} (h : i < (rngD lo n).length) : (rngD lo n)[i] = .int (lo + i) := by
  have e : (rngD lo n)[i]? = some (.int (lo + i)) := by
    have h' : i < n := by rw [rngD_length] at h; exact h
    unfold rngD
    rw [List.getElem?_map, List.getElem?_range h']
    rfl
  exact Option.some.inj ((List.getElem?_eq_getElem h).symm.trans e)
theorem bwL_int {k : Nat} : ∀ l : List Int, D.bwL k (l.map D.int) = true
  | [] => rfl
  | i :: r => by simp [D.bwL, D.bw, bwL_int r]
@[simp] theorem d1_one {F : D → Mm D} {x : D} {G : Hh} : d1 F [x] G = F x G := rfl
@[simp] theorem d2_two {F : D → D → Mm D} {x y : D} {G : Hh} : d2 F [x, y] G = F x y G := rfl
@[simp] theorem at2_0 {x y : D} : atI [x, y] 0 = some x := rfl
@[simp] theorem at2_1 {x y : D} : atI [x, y] 1 = some y := rfl
def bgO (a m : Int) : O := .lst [.int a, .int m]
def BoxS (X : List Nat) (n c : Nat) (G : Hh) : Prop := (∀ x ∈ X, x < G.length) ∧ ∃ a m : Int, G[n]? = some (bgO a m)
theorem BoxS.lt {X : List Nat} {n c : Nat} {G : Hh} (h : BoxS X n c G) : n < G.length := let ⟨_, _, _, e⟩ := h; (List.getElem?_eq_some_iff.mp e).1
theorem BoxS.keep {X : List Nat} {n c : Nat} {G G' : Hh} (h : BoxS X n c G) (k : Keep [] G G') : BoxS X n c G' := by
  obtain ⟨hx, a, m, h1⟩ := h
  exact ⟨fun x hm => Nat.lt_of_lt_of_le (hx x hm) k.1, a, m, k.get h1 (List.not_mem_nil)⟩
theorem BoxS.up {X : List Nat} {n c c' : Nat} {G : Hh} (h : BoxS X n c G) (_hc : c ≤ c') : BoxS X n c' G := h
theorem BoxS.set {X : List Nat} {n c r : Nat} {o : O} {G : Hh} (h : BoxS X n c G) (_hr : r ∈ X) (hn : r ≠ n) : BoxS X n c (G.set r o) := by
  obtain ⟨hx, a, m, h1⟩ := h
  exact ⟨fun x hm => by rw [List.length_set]; exact hx x hm, a, m, by rw [List.getElem?_set_ne hn]; exact h1⟩
theorem BoxS.own {X : List Nat} {n c : Nat} {o : O} {G : Hh} (h : BoxS X n c G) : BoxS (G.length :: X) n c (G ++ [o]) := by
  obtain ⟨hx, a, m, h1⟩ := h.keep (G' := G ++ [o]) .app
  refine ⟨fun x hm => ?_, a, m, h1⟩
  rcases List.mem_cons.mp hm with rfl | hm
  · simp
  · exact hx x hm
theorem BoxS.less {X Y : List Nat} {n c : Nat} {G : Hh} (h : BoxS X n c G) (hs : ∀ x ∈ Y, x ∈ X) : BoxS Y n c G := ⟨fun x hm => h.1 x (hs x hm), h.2⟩
theorem Keep.setN {G : Hh} {n : Nat} {o : O} : Keep [n] G (G.set n o) := ⟨by simp, fun i _ h => List.getElem?_set_ne fun e => h (by rw [e]; exact List.mem_cons_self ..)⟩
theorem Keep.setNew {W : List Nat} {r : Nat} {o : O} {G G' : Hh} (k : Keep W G G') (h : G.length ≤ r) : Keep W G (G'.set r o) := ⟨by rw [List.length_set]; exact k.1, fun x h1 h2 => by rw [List.getElem?_set_ne (by omega)]; exact k.2 x h1 h2⟩
theorem cutK {X : List Nat} {n c c0 : Nat} {G G3 J : Hh} (h0 : BoxS X n c0 G) (h3 : BoxS X n c G3) (k : Keep [n] G G3) : BoxS X n c (G3.take G.length ++ J) ∧ Keep [n] G (G3.take G.length ++ J) := by
  have ln := h0.lt
  have hl := k.1
  have ht : (G3.take G.length).length = G.length := by rw [List.length_take]; omega
  have hk : ∀ i, i < G.length → (G3.take G.length ++ J)[i]? = G3[i]? := fun i hi => by rw [List.getElem?_append_left (by omega), List.getElem?_take_of_lt hi]
  obtain ⟨hx, a, m, h1⟩ := h3
  exact ⟨⟨fun x hm => by have := h0.1 x hm; simp; omega, a, m, (hk n ln).trans h1⟩, by simp; omega, fun i q1 q2 => (hk i q1).trans (k.2 i q1 q2)⟩
theorem slimR {X : List Nat} {n c c0 r : Nat} {o : O} {G G3 : Hh} (h0 : BoxS X n c0 G) (h3 : BoxS X n c G3) (k : Keep [n] G G3) (hr : G.length ≤ r) (ho : G3[r]? = some o) : ∃ r' G', slim G (some (.val (.ref r), G3)) = some (.val (.ref r'), G') ∧ G.length ≤ r' ∧ G'[r']? = some o ∧ BoxS X n c G' ∧ Keep [n] G G' ∧ (G' = G3 ∨ o.bw G.length = true) := by
  have same : ∃ r' G', some (Rs.val (D.ref r), G3) = some (.val (.ref r'), G') ∧ G.length ≤ r' ∧ G'[r']? = some o ∧ BoxS X n c G' ∧ Keep [n] G G' ∧ (G' = G3 ∨ o.bw G.length = true) := ⟨r, G3, rfl, hr, ho, h3, k, .inl rfl⟩
  unfold slim
  dsimp only
  split
  · rw [if_neg (by omega), ho]
    dsimp only
    split
    · rename_i hb
      have hl3 := k.1
      have ht : (G3.take G.length).length = G.length := by rw [List.length_take]; omega
      obtain ⟨q1, q2⟩ := cutK (J := [o]) h0 h3 k
      refine ⟨_, _, rfl, Nat.le_refl _, ?_, q1, q2, .inr hb⟩
      rw [List.getElem?_append_right (by omega), ht]
      simp
    · exact same
  · exact same
def LstQ (X : List Nat) (n c : Nat) (P : List Int → Prop) (G : Hh) (r : Rs D) (G' : Hh) : Prop := ∃ rr l, r = .val (.ref rr) ∧ G.length ≤ rr ∧ G'[rr]? = some (.lst (l.map D.int)) ∧ P l ∧ BoxS X n c G' ∧ Keep [n] G G'
theorem lst_end {X : List Nat} {n c c0 r : Nat} {l : List Int} {P : List Int → Prop} {G G3 : Hh} (h0 : BoxS X n c0 G) (h3 : BoxS X n c G3) (k : Keep [n] G G3) (hr : G.length ≤ r) (ho : G3[r]? = some (.lst (l.map D.int))) (hp : P l) : we (slim G (some (.val (.ref r), G3))) (LstQ X n c P G) := by
  obtain ⟨r', G', e, h1, h2, h3, h4, -⟩ := slimR h0 h3 k hr ho
  rw [e]
  exact (we_some _ _).mpr ⟨r', l, rfl, h1, h2, hp, h3, h4⟩
theorem okMul_l {i j : Int} (h : -(2 ^ 64) < i ∧ i < 2 ^ 64) : okMul i j = true := by
  unfold okMul
  rw [Bool.or_eq_true]
  exact .inl (decide_eq_true h)
theorem draw {X : List Nat} {n c : Nat} {z : Int} {G : Hh} (h : BoxS X n c G) (hc : c < 1000000000000000000) (z1 : 1 ≤ z) (z2 : z ≤ 100000) : ∃ v G', F__law_draw [.ref n, .int z] G = some (.val (.int v), G') ∧ 0 ≤ v ∧ v < z ∧ BoxS X n (c + 1) G' ∧ Keep [n] G G' := by
  obtain ⟨hx, a, m, h1⟩ := h
  have hn := (List.getElem?_eq_some_iff.mp h1).1
  have hz0 : 0 < z := by omega
  have z0 : z ≠ 0 := by omega
  have hz64 : z < 18446744073709551616 := by omega
  have hV : ∀ V : Int, 0 ≤ V % z ∧ V % z < z := fun V => ⟨Int.emod_nonneg _ z0, Int.emod_lt_of_pos _ hz0⟩
  have fin : ∀ a' m', BoxS X n (c + 1) (G.set n (bgO a' m')) ∧ Keep [n] G (G.set n (bgO a' m')) := fun a' m' => ⟨⟨fun x hm => by rw [List.length_set]; exact hx x hm, a', m', List.getElem?_set_self hn⟩, Keep.setN⟩
  have out : ∀ {v : Int} {a' m' : Int} {o : Option (Rs D × Hh)}, (we o fun r G' => r = .val (.int v) ∧ G' = G.set n (bgO a' m')) → o = some (.val (.int v), G.set n (bgO a' m')) := fun {v a' m' o} h => by
    obtain ⟨r, G', e, rfl, rfl⟩ := h
    exact e
  unfold bgO at h1
  by_cases hm : m = 0
  · subst hm
    refine ⟨a % z, G.set n (bgO (a / z) 0), out (we_fn rfl ?_), (hV _).1, (hV _).2, fin _ _⟩
    simp [b__law_draw, start0, N__law_draw, we_eVar, h1, atI_nat, ixN, set_selfO, dMod_int, dFdiv_lt, hz0, hz64]
    rw [slim_len (by simp)]
    exact (we_some _ _).mpr ⟨rfl, rfl⟩
  · obtain ⟨A, hA⟩ : ∃ A : Int, (a * 48271 + m * 69621 + 13) % 2147483629 = A := ⟨_, rfl⟩
    have hA0 : 0 ≤ A := by rw [← hA]; exact Int.emod_nonneg _ (by decide)
    have hA1 : A < 2147483629 := by rw [← hA]; exact Int.emod_lt_of_pos _ (by decide)
    have hAm : ∀ (X : Int) (H : Hh), dMul (.int A) (.int X) H = some (.val (.int (A * X)), H) := fun X H => dMul_int (okMul_l ⟨by omega, by omega⟩)
    obtain ⟨B, hB⟩ : ∃ B : Int, (A * A + m * 16807 + 5) % 2147483587 = B := ⟨_, rfl⟩
    have hB0 : 0 ≤ B := by rw [← hB]; exact Int.emod_nonneg _ (by decide)
    have hB1 : B < 2147483587 := by rw [← hB]; exact Int.emod_lt_of_pos _ (by decide)
    have hBm : ∀ (X : Int) (H : Hh), dMul (.int B) (.int X) H = some (.val (.int (B * X)), H) := fun X H => dMul_int (okMul_l ⟨by omega, by omega⟩)
    obtain ⟨C, hC⟩ : ∃ C : Int, (B * B + a + 3) % 2147483579 = C := ⟨_, rfl⟩
    refine ⟨C / 16 % z, G.set n (bgO a (m + 1)), out (we_fn rfl ?_), (hV _).1, (hV _).2, fin _ _⟩
    unfold b__law_draw
    refine ws_cut (fun gs G' => gs = [some (.ref n), some (.int z), none, none] ∧ G' = G) (by simp [start0, N__law_draw, we_eVar, h1, atI_nat, hm]) ?_
    rintro gs0 G0 ⟨rfl, rfl⟩
    refine ws_cut (fun gs G' => gs = [some (.ref n), some (.int z), none, some (.int A)] ∧ G' = G0) (by simp [we_eVar, h1, atI_nat, dMod_int, dMul_r, hA]) ?_
    rintro gs0 G0 ⟨rfl, rfl⟩
    refine ws_cut (fun gs G' => gs = [some (.ref n), some (.int z), none, some (.int B)] ∧ G' = G0) (by simp [we_eVar, h1, atI_nat, dMod_int, dMul_r, hAm, hB]) ?_
    rintro gs0 G0 ⟨rfl, rfl⟩
    refine ws_cut (fun gs G' => gs = [some (.ref n), some (.int z), none, some (.int C)] ∧ G' = G0) (by simp [we_eVar, h1, atI_nat, dMod_int, dMul_r, hBm, hC]) ?_
    rintro gs0 G0 ⟨rfl, rfl⟩
    simp [we_eVar, h1, atI_nat, ixN, set_selfO, dMod_int, dFdiv_lt, hz0, hz64]
    rw [slim_len (by simp)]
    exact (we_some _ _).mpr ⟨rfl, rfl⟩
@[simp] theorem isi_int_int (i : Int) (G : Hh) : bIsi kt (.int i) (.ty "int") G = some (.val (.bl true), G) := rfl
@[simp] theorem isi_int_bool (i : Int) (G : Hh) : bIsi kt (.int i) (.ty "bool") G = some (.val (.bl false), G) := rfl
@[simp] theorem isi_int_tup (i : Int) (G : Hh) : bIsi kt (.int i) (.ty "tuple") G = some (.val (.bl false), G) := rfl
@[simp] theorem isi_bl_int (i : Bool) (G : Hh) : bIsi kt (.bl i) (.ty "int") G = some (.val (.bl true), G) := rfl
@[simp] theorem isi_bl_bool (i : Bool) (G : Hh) : bIsi kt (.bl i) (.ty "bool") G = some (.val (.bl true), G) := rfl
@[simp] theorem isi_bl_tup (i : Bool) (G : Hh) : bIsi kt (.bl i) (.ty "tuple") G = some (.val (.bl false), G) := rfl
@[simp] theorem isi_str_int (i : Str) (G : Hh) : bIsi kt (.str i) (.ty "int") G = some (.val (.bl false), G) := rfl
@[simp] theorem isi_str_tup (i : Str) (G : Hh) : bIsi kt (.str i) (.ty "tuple") G = some (.val (.bl false), G) := rfl
@[simp] theorem isi_non_int (G : Hh) : bIsi kt .non (.ty "int") G = some (.val (.bl false), G) := rfl
@[simp] theorem isi_non_tup (G : Hh) : bIsi kt .non (.ty "tuple") G = some (.val (.bl false), G) := rfl
@[simp] theorem isi_tup_int (xs : List D) (G : Hh) : bIsi kt (.tup xs) (.ty "int") G = some (.val (.bl false), G) := rfl
@[simp] theorem isi_tup_tup (xs : List D) (G : Hh) : bIsi kt (.tup xs) (.ty "tuple") G = some (.val (.bl true), G) := rfl
@[simp] theorem is_integer_int (i : Int) (G : Hh) : F_is_integer [.int i] G = some (.val (.bl true), G) := by
  refine we_eq (we_fn rfl ?_)
  simp [b_is_integer, start0, N_is_integer, we_eVar]
@[simp] theorem is_integer_bl (i : Bool) (G : Hh) : F_is_integer [.bl i] G = some (.val (.bl false), G) := by
  refine we_eq (we_fn rfl ?_)
  simp [b_is_integer, start0, N_is_integer, we_eVar]
@[simp] theorem is_integer_str (i : Str) (G : Hh) : F_is_integer [.str i] G = some (.val (.bl false), G) := by
  refine we_eq (we_fn rfl ?_)
  simp [b_is_integer, start0, N_is_integer, we_eVar]
@[simp] theorem is_integer_non (G : Hh) : F_is_integer [.non] G = some (.val (.bl false), G) := by
  refine we_eq (we_fn rfl ?_)
  simp [b_is_integer, start0, N_is_integer, we_eVar]
@[simp] theorem is_integer_tup (xs : List D) (G : Hh) : F_is_integer [.tup xs] G = some (.val (.bl false), G) := by
  refine we_eq (we_fn rfl ?_)
  simp [b_is_integer, start0, N_is_integer, we_eVar]
end FI.K00
set_option maxRecDepth 100000
set_option maxHeartbeats 4000000
namespace FI.K00
open PySem L2 PySem.Spec PyProof.Rows FI
abbrev Tr := Int × Int × Int
abbrev tT (c : Tr) : D := .tup [.int c.1, .int c.2.1, .int c.2.2]
def OkC (s : Int) (c : Tr) : Prop := 0 ≤ c.1 ∧ c.1 < s ∧ 0 ≤ c.2.1 ∧ c.2.1 < s ∧ c.1 ≠ c.2.1 ∧ 1 ≤ c.2.2 ∧ c.2.2 ≤ 999
abbrev kT (c : Tr) : List Key := [.inl c.1, .inl c.2.1]
theorem in_dT {G : Hh} {r : Nat} {kvs : List (List Key × D)} {c : Tr} (h : G[r]? = some (.dT kvs)) : dIn false (.tup [.int c.1, .int c.2.1]) (.ref r) G = some (.val (.bl (getK kvs (kT c)).isSome), G) := by
  unfold dIn orF dInS dInD
  have e : pdS G (.ref r) = none := by
    unfold pdS pd
    rw [h]
  rw [e]
  dsimp only
  rw [h]
  dsimp only
  cases pdS G (.tup [.int c.1, .int c.2.1]) <;> simp [lookO, keysD]
theorem enumD_map {α : Type} (f : α → D) (xs : List α) {i : Nat} (h : i < (enumD (xs.map f)).length) (h2 : i < xs.length) : (enumD (xs.map f))[i] = .tup [.int i, f xs[i]] := by
  have e : (enumD (xs.map f))[i]? = some (.tup [.int i, f xs[i]]) := by
    unfold enumD
    rw [List.getElem?_map, List.getElem?_zipIdx, List.getElem?_map, List.getElem?_eq_getElem h2]
    simp
  exact Option.some.inj ((List.getElem?_eq_getElem h).symm.trans e)
def wt (cs : List Tr) (dn : List Int) (b : Int) : Nat := cs.countP fun c => decide (c.2.1 = b) && !decide (c.1 ∈ dn)
theorem wt_zero {cs : List Tr} {dn : List Int} {b : Int} : wt cs dn b = 0 ↔ ∀ c ∈ cs, c.2.1 = b → c.1 ∈ dn := by
  unfold wt
  rw [List.countP_eq_zero]
  constructor
  · intro h c hc e
    have := h c hc
    simp [e] at this
    exact this
  · intro h c hc
    by_cases e : c.2.1 = b
    · simp [e, h c hc e]
    · simp [e]
theorem wt_cons {c : Tr} {cs : List Tr} {dn : List Int} {b : Int} : wt (c :: cs) dn b = wt cs dn b + if c.2.1 = b ∧ c.1 ∉ dn then 1 else 0 := by
  unfold wt
  rw [List.countP_cons]
  congr 1
  by_cases h1 : c.2.1 = b <;> by_cases h2 : c.1 ∈ dn <;> simp [h1, h2]
theorem wt_app {cs ds : List Tr} {dn : List Int} {b : Int} : wt (cs ++ ds) dn b = wt cs dn b + wt ds dn b := List.countP_append
def wtP (cs : List Tr) (dn : List Int) (x : Int) (i : Nat) (b : Int) : Nat := wt (cs.take i) (x :: dn) b + wt (cs.drop i) dn b
theorem wtP_zero {cs : List Tr} {dn : List Int} {x b : Int} : wtP cs dn x 0 b = wt cs dn b := by
  unfold wtP
  rw [List.take_zero, List.drop_zero]
  show 0 + _ = _
  omega
theorem wtP_all {cs : List Tr} {dn : List Int} {x b : Int} : wtP cs dn x cs.length b = wt cs (x :: dn) b := by
  unfold wtP
  rw [List.take_length, List.drop_length]
  show _ + 0 = _
  omega
theorem wtP_step {cs : List Tr} {dn : List Int} {x : Int} {i : Nat} (h : i < cs.length) (hx : x ∉ dn) (b : Int) : wtP cs dn x i b = wtP cs dn x (i + 1) b + if cs[i].2.1 = b ∧ cs[i].1 = x then 1 else 0 := by
  unfold wtP
  rw [List.take_succ_eq_append_getElem h, wt_app, List.drop_eq_getElem_cons h, wt_cons, wt_cons]
  have e0 : wt [] (x :: dn) b = 0 := rfl
  rw [e0]
  by_cases h1 : cs[i].2.1 = b
  · by_cases h2 : cs[i].1 = x
    · simp [h1, h2, hx]; omega
    · by_cases h3 : cs[i].1 ∈ dn <;> simp [h1, h2, h3] <;> omega
  · simp [h1]
def ml (s : Nat) (f : Int → Int) : List D := (List.range s).map fun b : Nat => D.int (f b)
theorem ml_len {s : Nat} {f : Int → Int} : (ml s f).length = s := by simp [ml]
theorem ml_get {s : Nat} {f : Int → Int} {b : Int} (h0 : 0 ≤ b) (h1 : b < s) : (ml s f)[b.toNat]? = some (.int (f b)) := by
  unfold ml
  rw [List.getElem?_map, List.getElem?_range (by omega)]
  show some (D.int (f (b.toNat : Nat))) = _
  rw [Int.toNat_of_nonneg h0]
theorem ml_set {s : Nat} {f g : Int → Int} {b v : Int} (h0 : 0 ≤ b) (hb : g b = v) (hg : ∀ x, x ≠ b → g x = f x) : (ml s f).set b.toNat (.int v) = ml s g := by
  apply List.ext_getElem?
  intro i
  unfold ml
  by_cases hi : i < s
  · by_cases e : b.toNat = i
    · subst e
      rw [List.getElem?_set_self (by simpa using hi), List.getElem?_map, List.getElem?_range hi]
      show _ = some (D.int (g (b.toNat : Nat)))
      rw [Int.toNat_of_nonneg h0, hb]
    · rw [List.getElem?_set_ne e, List.getElem?_map, List.getElem?_map, List.getElem?_range hi]
      show some (D.int (f (i : Nat))) = some (D.int (g (i : Nat)))
      rw [hg _ (by omega)]
  · rw [List.getElem?_eq_none (by simp; omega), List.getElem?_eq_none (by simp; omega)]
section
variable {G : Hh} {a b c x : O}
theorem at1 : (G ++ [a, b, c])[G.length + 1]? = some b := by
  rw [List.getElem?_append_right (by omega), show G.length + 1 - G.length = 1 from by omega]; rfl
theorem at2 : (G ++ [a, b, c])[G.length + 1 + 1]? = some c := by
  rw [List.getElem?_append_right (by omega), show G.length + 1 + 1 - G.length = 2 from by omega]; rfl
theorem at1' : (G ++ [a, b])[G.length + 1]? = some b := by
  rw [List.getElem?_append_right (by omega), show G.length + 1 - G.length = 1 from by omega]; rfl
theorem set1' : (G ++ [a, b]).set (G.length + 1) x = G ++ [a, x] := by
  rw [List.set_append_right _ _ (by omega), show G.length + 1 - G.length = 1 from by omega]; rfl
end
def nbe (e : Tr → Int) (cs : List Tr) (b : Int) : List Int := ((enumT cs).filter fun p => decide (e p.2 = b)).map (·.1)
def hbe (G : Hh) (s : Nat) (f : Nat → List Int) : Hh := G ++ O.lst ((List.range s).map fun b : Nat => D.ref (G.length + 1 + b)) :: (List.range s).map fun b : Nat => O.lst ((f b).map D.int)
theorem hbe_0 {G : Hh} {s : Nat} {f : Nat → List Int} : (hbe G s f)[G.length]? = some (.lst ((List.range s).map fun b : Nat => D.ref (G.length + 1 + b))) := by simp [hbe]
theorem hbe_get {G : Hh} {s : Nat} {f : Nat → List Int} {b : Nat} (h : b < s) : (hbe G s f)[G.length + 1 + b]? = some (.lst ((f b).map D.int)) := by
  unfold hbe
  rw [List.getElem?_append_right (by omega), show G.length + 1 + b - G.length = b + 1 from by omega, List.getElem?_cons_succ, List.getElem?_map, List.getElem?_range h]
  rfl
theorem hbe_set {G : Hh} {s : Nat} {f g : Nat → List Int} {b : Nat} (h : b < s) {x : List D} (hx : x = (g b).map D.int) (hg : ∀ c, c ≠ b → g c = f c) : (hbe G s f).set (G.length + 1 + b) (.lst x) = hbe G s g := by
  unfold hbe
  rw [List.set_append_right _ _ (by omega), show G.length + 1 + b - G.length = b + 1 from by omega, List.set_cons_succ]
  congr 2
  apply List.ext_getElem?
  intro i
  by_cases hi : b = i
  · subst hi
    rw [List.getElem?_set_self (by simpa using h), List.getElem?_map, List.getElem?_range h, hx]
    rfl
  · rw [List.getElem?_set_ne hi]
    by_cases hs : i < s
    · rw [List.getElem?_map, List.getElem?_map, List.getElem?_range hs]
      show some (O.lst ((f i).map D.int)) = some (O.lst ((g i).map D.int))
      rw [hg i (Ne.symm hi)]
    · rw [List.getElem?_eq_none (by simpa using hs), List.getElem?_eq_none (by simpa using hs)]
theorem hbe_len {G : Hh} {s : Nat} {f : Nat → List Int} : (hbe G s f).length = G.length + 1 + s := by simp [hbe]; omega
theorem hbe_take {G : Hh} {s : Nat} {f : Nat → List Int} {J : Hh} : (hbe G s f ++ J).take G.length = G := by simp [hbe]
theorem nbe_snoc {e : Tr → Int} {cs : List Tr} {i : Nat} (h : i < cs.length) (b : Int) : nbe e (cs.take (i + 1)) b = nbe e (cs.take i) b ++ if e cs[i] = b then [(i : Int)] else [] := by
  unfold nbe enumT
  rw [← List.take_append_getElem h, List.zipIdx_append]
  simp only [List.map_append, List.filter_append]
  congr 1
  rw [List.length_take, Nat.min_eq_left (Nat.le_of_lt h)]
  by_cases hb : e cs[i] = b <;> simp [hb]
theorem bwL_eT {k : Nat} : ∀ l : List (List Int), D.bwL k (l.map fun a => D.tup (a.map D.int)) = true
  | [] => rfl
  | a :: r => by
    show (D.bw k (.tup (a.map D.int)) && D.bwL k _) = true
    rw [bwL_eT r, Bool.and_true]
    exact bwL_int a
def endOf (k : Int) (c : Tr) : Int := if k = 1 then c.2.1 else c.1
theorem numbers_by_end_ok {s k : Int} {cs : List Tr} (hs : 1 ≤ s) (hs2 : s ≤ 1000) (hk : k = 0 ∨ k = 1) (hc : ∀ c ∈ cs, OkC s c) (hl : cs.length ≤ 1000) (G : Hh) : F_numbers_by_end [.tup (cs.map tT), .int s, .int k] G = some (.val (eT (eT D.int) ((List.range s.toNat).map fun b : Nat => nbe (endOf k) cs (b : Int))), G) := by
  refine we_eq ?_
  have key : ∀ Q : Rs D → Hh → Prop, Q (.val (eT (eT D.int) ((List.range s.toNat).map fun b : Nat => nbe (endOf k) cs (b : Int)))) G → we (F_numbers_by_end [.tup (cs.map tT), .int s, .int k] G) Q := fun Q hQ => by
    refine we_fn rfl ?_
    refine ws_cut (fun gs G1 => gs = [some (.tup (cs.map tT)), some (.int s), some (.int k), some (.ref G.length), none, none, none, none] ∧ G1 = hbe G s.toNat fun _ => []) ?_ ?_
    · simp [start0, N_numbers_by_end]
      refine we_eLc (wRng1_eq (j := s) (G1 := G) (we_eq (by simp [we_eVar])) (by omega)) (fun i G2 => i ≤ s.toNat ∧ G2 = G ++ O.lst ((List.range i).map fun b : Nat => D.ref (G.length + 1 + b)) :: (List.range i).map fun b : Nat => O.lst [])
        ⟨Nat.zero_le _, rfl⟩ (fun _ _ _ _ => trivial) ?_ ?_
      · rintro i hi G2 ⟨hi2, rfl⟩
        rw [rngD_length] at hi
        rw [rngD_get]
        have e1 : ∀ o : O, (G ++ O.lst ((List.range i).map fun b : Nat => D.ref (G.length + 1 + b)) :: ((List.range i).map fun b : Nat => O.lst []) ++ [o])[G.length]? = some (O.lst ((List.range i).map fun b : Nat => D.ref (G.length + 1 + b))) := fun o => by simp
        simp [wipeG]
        refine ⟨by omega, by omega, ?_⟩
        rw [show G.length + (i + 1) = G.length + 1 + i from by omega]
        simp [List.range_succ]
      · rintro G' ⟨-, rfl⟩
        rw [rngD_length]
        simp [hbe]
    · rintro gs0 G0 ⟨rfl, rfl⟩
      rw [ws_bSeq]
      have len : (enumD (cs.map tT)).length = cs.length := by simp [enumD]
      refine ws_sFor (items := enumD (cs.map tT)) (gd := anyH) (G1 := hbe G s.toNat fun _ => []) (by unfold wEnum; rfl) (fun i gs G2 => ∃ (o4 o5 o6 : Option D), gs = [some (.tup (cs.map tT)), some (.int s), some (.int k), some (.ref G.length), o4, o5, o6, none] ∧ G2 = hbe G s.toNat fun b : Nat => nbe (endOf k) (cs.take i) (b : Int))
        ⟨none, none, none, rfl, rfl⟩ (fun _ _ _ _ _ => trivial) ?_ ?_
      · rintro i hi gs G2 ⟨o4, o5, o6, rfl, rfl⟩
        have hi2 : i < cs.length := by rw [← len]; exact hi
        rw [enumD_map tT cs hi hi2]
        have hci := hc _ (List.getElem_mem hi2)
        have ek : atI [D.int cs[i].1, .int cs[i].2.1, .int cs[i].2.2] k = some (.int (endOf k cs[i])) := by
          rcases hk with rfl | rfl <;> rfl
        have hb : 0 ≤ endOf k cs[i] ∧ endOf k cs[i] < s := by
          rcases hk with rfl | rfl
          · exact ⟨hci.1, hci.2.1⟩
          · exact ⟨hci.2.2.1, hci.2.2.2.1⟩
        have hbn : (endOf k cs[i]).toNat < s.toNat := by omega
        have e0 : ∀ f : Nat → List Int, (hbe G s.toNat f)[G.length]? = _ := fun f => hbe_0
        have e1 : ∀ f : Nat → List Int, (hbe G s.toNat f)[G.length + 1 + (endOf k cs[i]).toNat]? = _ := fun f => hbe_get hbn
        have er : atI ((List.range s.toNat).map fun b : Nat => D.ref (G.length + 1 + b)) (endOf k cs[i]) = some (.ref (G.length + 1 + (endOf k cs[i]).toNat)) := by
          rw [atI_nat hb.1, List.getElem?_map, List.getElem?_range hbn]
          rfl
        have hlen : (nbe (endOf k) (cs.take i) (endOf k cs[i])).length < 100000 := by
          unfold nbe
          rw [List.length_map]
          refine Nat.lt_of_le_of_lt (List.length_filter_le _ _) ?_
          unfold enumT
          simp
          omega
        simp [gTp, gsCons, gsNil, gNm, we_eVar, ek, e0, er, e1, Int.toNat_of_nonneg hb.1, hlen]
        refine hbe_set hbn ?_ ?_
        · rw [nbe_snoc hi2, Int.toNat_of_nonneg hb.1, if_pos rfl]
          simp
        · intro c hne
          rw [nbe_snoc hi2, if_neg (by omega), List.append_nil]
      · rintro gs G2 ⟨o4, o5, o6, rfl, rfl⟩
        rw [len, List.take_length]
        generalize hH : (hbe G s.toNat fun b : Nat => nbe (endOf k) cs (b : Int)) = H
        have h0 : H[G.length]? = some (.lst ((List.range s.toNat).map fun b : Nat => D.ref (G.length + 1 + b))) := by rw [← hH]; exact hbe_0
        have h1 : ∀ b, b < s.toNat → H[G.length + 1 + b]? = some (.lst ((nbe (endOf k) cs (b : Int)).map D.int)) := fun b hb => by rw [← hH]; exact hbe_get hb
        have hlt : G.length < H.length := by rw [← hH, hbe_len]; omega
        simp
        refine we_eLc (wSeq_ref (n := G.length) (G1 := H) (we_eq (by simp [we_eVar])) h0) (fun i G2 => i ≤ s.toNat ∧ G2 = H ++ [.lst ((List.range i).map fun b : Nat => eT D.int (nbe (endOf k) cs (b : Int)))]) ⟨Nat.zero_le _, by simp⟩ ?_ ?_ ?_
        · rintro i G2 _ ⟨_, rfl⟩
          unfold stays
          rw [List.getElem?_append_left hlt]
          exact h0
        · rintro i hi G2 ⟨hi2, rfl⟩
          have hi3 : i < s.toNat := by simpa using hi
          have e2 : ∀ J, (H ++ J)[G.length + 1 + i]? = some (.lst ((nbe (endOf k) cs (i : Int)).map D.int)) := fun J => by
            rw [List.getElem?_append_left (List.getElem?_eq_some_iff.mp (h1 i hi3)).1]
            exact h1 i hi3
          have e3 : ∀ J, bTuple (.ref (G.length + 1 + i)) (H ++ J) = some (.val (eT D.int (nbe (endOf k) cs (i : Int))), H ++ J) := fun J => by
            unfold bTuple itemsD
            dsimp only
            rw [e2]
          simp [wipeG, gNm, we_eVar, e3]
          refine ⟨by omega, by omega, ?_⟩
          simp [List.range_succ]
        · rintro G' ⟨-, rfl⟩
          have e5 : ∀ o : O, (H ++ [o])[H.length]? = some o := fun o => by simp
          have e4 : ∀ ds : List D, bTuple (.ref H.length) (H ++ [.lst ds]) = some (.val (.tup ds), H ++ [.lst ds]) := fun ds => by
            unfold bTuple itemsD
            dsimp only
            rw [e5]
          rw [List.length_map, List.length_range]
          simp [e4]
          rw [slim_old (by intro m; simp) ?_ ?_]
          · rw [← hH, hbe_take]
            refine (we_some _ _).mpr ?_
            have e6 : eT (eT D.int) ((List.range s.toNat).map fun b : Nat => nbe (endOf k) cs (b : Int)) = D.tup ((List.range s.toNat).map fun b : Nat => eT D.int (nbe (endOf k) cs (b : Int))) := by
              simp [eT, Function.comp_def]
            rw [e6] at hQ
            exact hQ
          · have := bwL_eT (k := G.length) ((List.range s.toNat).map fun b : Nat => nbe (endOf k) cs (b : Int))
            rw [List.map_map] at this
            exact this
          · rw [← hH]
            unfold hbe
            rw [List.append_assoc]
            exact Old.app
  exact key _ ⟨rfl, rfl⟩
def netFs (s : Int) (cs : List Tr) : List (Nat × D) := [(7, .int s), (5, .tup (cs.map tT)), (8, eT (eT D.int) ((List.range s.toNat).map fun b : Nat => nbe (endOf 1) cs (b : Int))), (9, eT (eT D.int) ((List.range s.toNat).map fun b : Nat => nbe (endOf 0) cs (b : Int)))]
theorem ws_sFld {cs : List Nat} {k : Nat} {fo fv : SE} {gs : Sg} {G : Hh} {R : Fl → Sg → Hh → Prop} {n c : Nat} {d : D} {fs : List (Nat × D)} (hv : fv gs G = some (.val d, G)) (ho : fo gs G = some (.val (.ref n), G)) (hn : G[n]? = some (.ins c fs)) (hc : c ∈ cs) (hl : fs.length < 900) (h : R .nx gs (G.set n (.ins c (putN k d fs)))) : ws (sFld' cs k fo fv gs G) R := by
  unfold sFld'
  rw [hv, onE_val, ho, onE_val]
  dsimp only
  rw [hn]
  dsimp only
  rw [if_pos ⟨hc, hl⟩]
  exact (ws_some _ _ _).mpr h
theorem ws_sSup {i : Nat} {tab : List (Nat × Fn)} {fa : SA} {gs : Sg} {G : Hh} {R : Fl → Sg → Hh → Prop} {n cn : Nat} {fs : List (Nat × D)} {F : Fn} (h1 : gs[i]? = some (some (.ref n))) (h2 : G[n]? = some (.ins cn fs)) (h3 : tab.lookup cn = some F) : ws (sSup i tab fa gs G) R ↔ we (fa gs G) (onR (fun ds G1 => we (F (.ref n :: ds) G1) (onR (fun _ G2 => R .nx gs G2) fun e G2 => R (.ex e) gs G2)) fun e G1 => R (.ex e) gs G1) := by
  unfold sSup
  rw [h1]
  dsimp only
  rw [h2]
  dsimp only
  rw [h3]
  simp
theorem Net_init_ok {s : Int} {cs : List Tr} {c n : Nat} (hs : 1 ≤ s) (hs2 : s ≤ 1000) (hc : ∀ c ∈ cs, OkC s c) (hl : cs.length ≤ 1000) (hcn : c = 8) (G : Hh) (hn : G[n]? = some (.ins c [])) : F_Net_init [.ref n, .int s, .tup (cs.map tT)] G = some (.val .non, G.set n (.ins c (netFs s cs))) := by
  have hlt : n < G.length := (List.getElem?_eq_some_iff.mp hn).1
  have hci : c ∈ cIns := by subst hcn; decide
  have hg : ∀ o : O, (G.set n o)[n]? = some o := fun o => List.getElem?_set_self hlt
  have n1 := fun G => numbers_by_end_ok (k := 1) hs hs2 (.inr rfl) hc hl G
  have n0 := fun G => numbers_by_end_ok (k := 0) hs hs2 (.inl rfl) hc hl G
  refine we_eq (we_fn rfl ?_)
  unfold b_Net_init
  rw [ws_bSeq]
  refine ws_sFld (d := .int s) (n := n) rfl rfl hn hci (by simp) ?_
  rw [onFl_nx, ws_bSeq]
  refine ws_sFld (d := .tup (cs.map tT)) (n := n) rfl rfl (hg _) hci (by simp [putN]) ?_
  rw [onFl_nx, ws_bSeq, List.set_set]
  refine ws_sFld (n := n) (d := eT (eT D.int) ((List.range s.toNat).map fun b : Nat => nbe (endOf 1) cs (b : Int))) (we_eq (by simp [we_eVar, start0, N_Net_init, n1])) rfl (hg _) hci (by simp [putN]) ?_
  rw [onFl_nx, ws_bSeq, List.set_set]
  refine ws_sFld (n := n) (d := eT (eT D.int) ((List.range s.toNat).map fun b : Nat => nbe (endOf 0) cs (b : Int))) (we_eq (by simp [we_eVar, start0, N_Net_init, n0])) rfl (hg _) hci (by simp [putN]) ?_
  rw [List.set_set]
  simp [putN]
  rw [slim_len (by simp)]
  exact (we_some _ _).mpr ⟨rfl, rfl⟩
theorem bwL_tT {k : Nat} : ∀ cs : List Tr, D.bwL k (cs.map tT) = true
  | [] => rfl
  | a :: r => by
    show (D.bw k (tT a) && D.bwL k _) = true
    rw [bwL_tT r]
    rfl
theorem netFs_bw {k c : Nat} {s : Int} {cs : List Tr} : (O.ins c (netFs s cs)).bw k = true := by
  have h1 := bwL_tT (k := k) cs
  have h2 := bwL_eT (k := k) ((List.range s.toNat).map fun b : Nat => nbe (endOf 1) cs (b : Int))
  have h3 := bwL_eT (k := k) ((List.range s.toNat).map fun b : Nat => nbe (endOf 0) cs (b : Int))
  show (true && (D.bwL k (cs.map tT) && (D.bwL k _ && (D.bwL k _ && true)))) = true
  rw [h1, h2, h3]
  rfl
theorem net_slim {c : Nat} {s : Int} {cs : List Tr} {G : Hh} {J : Hh} : we (slim (G ++ [O.ins c []]) (some (.val .non, G ++ O.ins c (netFs s cs) :: J))) fun r' G' => r' = Rs.val D.non ∧ G' = G ++ [O.ins c (netFs s cs)] := by
  rw [slim_old (by simp) rfl]
  · exact (we_some _ _).mpr ⟨rfl, by rw [show G ++ O.ins c (netFs s cs) :: J = (G ++ [O.ins c (netFs s cs)]) ++ J from by simp, List.take_left' (by simp)]⟩
  · refine ⟨by simp, fun i hi => ?_⟩
    by_cases h : i < G.length
    · rw [List.getElem?_append_left h, List.getElem?_append_left h]
      exact .inl rfl
    · have : i = G.length := by simp at hi; omega
      subst this
      exact .inr ⟨.ins c (netFs s cs), by simp, netFs_bw⟩
def k3 (zk : Int × Int × Int) : List Int := [zk.1, zk.2.1, zk.2.2]
def srt3 (cs : List Tr) : List Tr := srtK k3 cs
theorem srt3_perm {cs : List Tr} : (srt3 cs).Perm cs := srtK_perm
theorem sorted3 {G : Hh} {n : Nat} {cs : List Tr} (h : G[n]? = some (.lst (cs.map tT))) : bSorted [.ref n] G = some (.val (.ref G.length), G ++ [.lst ((srt3 cs).map tT)]) := by
  have hee : tT = tupI' ∘ k3 := rfl
  have h2' : G[n]? = some (.lst ((cs.map k3).map tupI')) := by rw [h, hee, List.map_map]
  have := sorted_tups h2' fun ns hn => by
    obtain ⟨v, _, rfl⟩ := List.mem_map.mp hn
    exact fun h => nomatch h
  rw [this, ← srtK_map, List.map_map]
  rfl
end FI.K00
set_option maxRecDepth 100000
set_option maxHeartbeats 4000000
namespace FI.K00
open PySem L2 PySem.Spec PyProof.Rows FI
theorem erase_perm : ∀ {l : List Int} {k : Nat} (h : k < l.length), (l[k] :: l.eraseIdx k).Perm l
  | _ :: _, 0, _ => .refl _
  | x :: r, k + 1, h => (List.Perm.swap x (r[k]'(by simpa using h)) (r.eraseIdx k)).trans (.cons x (erase_perm (l := r) (k := k) (by simpa using h)))
theorem eraseMap : ∀ (l : List Int) (k : Nat), (l.map D.int).eraseIdx k = (l.eraseIdx k).map D.int
  | [], _ => rfl
  | _ :: _, 0 => rfl
  | x :: r, k + 1 => congrArg (D.int x :: ·) (eraseMap r k)
theorem ixN_lt {k n : Nat} (h : k < n) : ixN n (k : Int) = some k := by
  unfold ixN
  rw [if_pos (by omega), if_pos (by omega)]
  rfl
theorem okR_lt {k : Int} (h0 : 0 ≤ k) (h : k < 1000000) : okR k = true := by
  unfold okR
  exact decide_eq_true (by omega)
theorem fPop_at {lf : List Int} {k : Nat} (hk : k < lf.length) (h2 : lf.length ≤ 1000) : fPop (lf.map D.int) [.int (k : Int)] = some ((lf.eraseIdx k).map D.int, .int lf[k]) := by
  have h1 : ixN (lf.map D.int).length (k : Int) = some k := ixN_lt (by rw [List.length_map]; exact hk)
  have h3 : (lf.map D.int)[k]? = some (.int lf[k]) := by rw [List.getElem?_map, List.getElem?_eq_getElem hk]; rfl
  show (if okR (k : Int) = true then (match ixN (lf.map D.int).length (k : Int) with
    | some k => match (lf.map D.int)[k]? with
      | some y => some ((lf.map D.int).eraseIdx k, y)
      | none => none
    | none => none) else none) = _
  rw [if_pos (okR_lt (by omega) (by omega)), h1]
  dsimp only
  rw [h3, eraseMap]
theorem mLst_of {f : List D → List D → Option (List D × D)} {n : Nat} {ds xs ys : List D} {z : D} {G : Hh} (h : G[n]? = some (.lst xs)) (hf : f xs ds = some (ys, z)) : mLst f (.ref n) ds G = some (.val z, G.set n (.lst ys)) := by
  unfold mLst
  dsimp only
  rw [h]
  dsimp only
  rw [hf]
theorem pop_ok {G4 : Hh} {A k : Nat} {lf : List Int} (r2 : G4[A]? = some (.lst (lf.map D.int))) (hk : k < lf.length) (h2 : lf.length ≤ 1000) : mLst fPop (.ref A) [.int (k : Int)] G4 = some (.val (.int lf[k]), G4.set A (.lst ((lf.eraseIdx k).map D.int))) :=
  mLst_of r2 (fPop_at hk h2)
theorem app_ok {G : Hh} {n : Nat} {d : D} {xs : List D} (h : G[n]? = some (.lst xs)) (hl : xs.length < 100000) : mLst fAppend (.ref n) [d] G = some (.val .non, G.set n (.lst (xs ++ [d]))) :=
  mLst_of h (show (if xs.length < 100000 then some (xs ++ [d], D.non) else none) = _ from if_pos hl)
@[simp] theorem at3_0 {x y z : D} : atI [x, y, z] 0 = some x := rfl
@[simp] theorem at3_1 {x y z : D} : atI [x, y, z] 1 = some y := rfl
@[simp] theorem at3_2 {x y z : D} : atI [x, y, z] 2 = some z := rfl
def gt (st : List Int) (i : Int) : Int := st.getD i.toNat 0
theorem gt_at {st : List Int} {i : Int} (h0 : 0 ≤ i) (h1 : i < st.length) : atI (st.map D.int) i = some (.int (gt st i)) := by
  rw [atI_nat h0, List.getElem?_map, List.getElem?_eq_getElem (by omega)]
  unfold gt
  rw [List.getD_eq_getElem?_getD, List.getElem?_eq_getElem (by omega)]
  rfl
def rngK (lo : Int) (k : Nat) : List Int := (List.range k).map fun i : Nat => lo + (i : Int)
theorem rngK_len {lo : Int} {k : Nat} : (rngK lo k).length = k := by simp [rngK]
theorem rngK_D {lo : Int} {k : Nat} : rngD lo k = (rngK lo k).map D.int := by
  unfold rngD rngK
  rw [List.map_map]
  rfl
theorem mem_rngK {lo x : Int} {k : Nat} : x ∈ rngK lo k ↔ lo ≤ x ∧ x < lo + k := by
  unfold rngK
  rw [List.mem_map]
  constructor
  · rintro ⟨i, hi, rfl⟩
    have := List.mem_range.mp hi
    omega
  · rintro ⟨h1, h2⟩
    exact ⟨(x - lo).toNat, List.mem_range.mpr (by omega), by omega⟩
theorem rngK_rngI {m : Int} : rngK 0 m.toNat = rngI 0 m := by
  unfold rngK rngI
  rw [show m - 0 = m from by omega]
def onF (q : Int → Bool) (f : Int → D) : D → Option D
  | .int i => if q i = true then some (f i) else none
  | _ => none
theorem filterMap_onF {q : Int → Bool} {f : Int → D} : ∀ l : List Int, (l.map D.int).filterMap (onF q f) = (l.filter q).map f
  | [] => rfl
  | x :: l => by
    rw [List.map_cons, List.filterMap_cons, List.filter_cons]
    by_cases h : q x = true
    · rw [if_pos h, show onF q f (.int x) = some (f x) from if_pos h, List.map_cons, filterMap_onF l]
    · rw [if_neg h, show onF q f (.int x) = none from if_neg h, filterMap_onF l]
theorem we_lcI {fw : SW} {t : GT} {tt : ST} {fe : SE} {own : List Nat} {gs : Sg} {G G1 : Hh} {Q : Rs D → Hh → Prop} {lo : Int} {k : Nat} (hw : fw gs G = some (.val (rngD lo k, anyH), G1)) (hk : k ≤ 100000) (q : Int → Bool) (f : Int → D)
    (hs : ∀ x : Int, lo ≤ x → x < lo + k → ∀ acc, asO (t (.int x) (wipeG gs own) (G1 ++ [.lst acc])) fun p => p.2 = G1 ++ [.lst acc] ∧ we (tt p.1 (G1 ++ [.lst acc])) fun r G2 => r = .val (q x) ∧ G2 = G1 ++ [.lst acc] ∧ (q x = true → fe p.1 (G1 ++ [.lst acc]) = some (.val (f x), G1 ++ [.lst acc])))
    (he : Q (.val (.ref G1.length)) (G1 ++ [.lst (((rngK lo k).filter q).map f)])) : we (eLc fw t tt fe own gs G) Q := by
  refine we_eLcP hw (onF q f) (by rw [rngD_length]; exact hk) (fun _ => trivial) ?_ (by rw [rngK_D, filterMap_onF]; exact he)
  intro d hd acc
  rw [rngK_D] at hd
  obtain ⟨x, hx, rfl⟩ := List.mem_map.mp hd
  obtain ⟨h1, h2⟩ := mem_rngK.mp hx
  have z := hs x h1 h2 acc
  cases e : t (.int x) (wipeG gs own) (G1 ++ [.lst acc]) with
  | none => rw [e] at z; exact z.elim
  | some p =>
    rw [e] at z
    obtain ⟨hp, z⟩ := z
    refine ⟨hp, ?_⟩
    rw [hp]
    refine we_mono z fun r G2 q3 => ?_
    obtain ⟨rfl, rfl, q4⟩ := q3
    refine ⟨rfl, ?_⟩
    split
    · rename_i hq
      exact we_of (q4 hq) ⟨if_pos hq, rfl⟩
    · rename_i hq
      show (if q x = true then _ else none) = none
      rw [if_neg hq]
theorem ws_ifY {c : ST} {A B rest : SS} {gs : Sg} {G G1 : Hh} {R : Fl → Sg → Hh → Prop} (hc : c gs G = some (.val true, G1)) (h : ws (A gs G1) (onFl (fun gs G => ws (rest gs G) R) R)) : ws (bSeq (sIf c A B) rest gs G) R := by
  rw [ws_bSeq, ws_sIf]
  exact we_of hc h
theorem ws_ifN {c : ST} {A rest : SS} {gs : Sg} {G G1 : Hh} {R : Fl → Sg → Hh → Prop} (hc : c gs G = some (.val false, G1)) (h : ws (rest gs G1) R) : ws (bSeq (sIf c A bNil) rest gs G) R := by
  rw [ws_bSeq, ws_sIf]
  refine we_of hc ?_
  simpa using h
theorem ws_retE {f : SE} {rest : SS} {gs : Sg} {G : Hh} {R : Fl → Sg → Hh → Prop} (h : we (f gs G) (onR (fun d G1 => R (.rt d) gs G1) fun e G1 => R (.ex e) gs G1)) : ws (bSeq (sRet f) rest gs G) R := by
  rw [ws_bSeq, ws_sRet]
  refine we_mono h fun r G1 q => ?_
  cases r <;> exact q
theorem order_ok {X : List Nat} {n c : Nat} {G : Hh} {many : Int} (h : BoxS X n c G) (hc : c < 1000000000000) (m1 : 1 ≤ many) (m2 : many ≤ 40) : we (F__law_order [.ref n, .int many] G) (LstQ X n (c + 40) (fun l => l.Perm (rngI 0 many)) G) := by
  have hn := h.lt
  have hrl : (rngI 0 many).length = many.toNat := by rw [rngI_len]; congr 1; omega
  have h1 := h.own (o := .lst ((rngI 0 many).map D.int))
  have gA : (G ++ [O.lst ((rngI 0 many).map D.int)])[G.length]? = some (.lst ((rngI 0 many).map D.int)) := by simp
  have kA : Keep [n] G (G ++ [O.lst ((rngI 0 many).map D.int)]) := .app
  refine we_fn rfl ?_
  unfold b__law_order
  refine ws_cut (fun gs G' => gs = [some (.ref n), some (.int many), some (.ref G.length), none, none] ∧ G' = G ++ [.lst ((rngI 0 many).map D.int)]) ?_ ?_
  · rw [ws_sAsg]
    refine we_lcI (lo := 0) (k := many.toNat) (G1 := G) (wRng1_eq (j := many) (we_eq (by simp [start0, N__law_order, we_eVar])) (by omega)) (by omega) (fun _ => true) D.int ?_ ?_
    · intro x _ _ acc
      simp [gNm, start0, N__law_order, wipeG, we_eVar]
      exact we_eq (by simp [we_eVar])
    · rw [List.filter_eq_self.mpr (fun _ _ => rfl)]
      simp [start0, N__law_order, gNm, rngK_rngI]
  rintro gs0 G0 ⟨rfl, rfl⟩
  refine ws_cut (fun gs G' => gs = [some (.ref n), some (.int many), some (.ref G.length), none, some (.ref (G.length + 1))] ∧ G' = G ++ [.lst ((rngI 0 many).map D.int), .lst []]) (by simp [we_eVar]) ?_
  rintro gs0 G3 ⟨rfl, rfl⟩
  have lq : (G ++ [O.lst ((rngI 0 many).map D.int)]).length = G.length + 1 := by simp
  have b1 : BoxS ((G.length + 1) :: G.length :: X) n c (G ++ [O.lst ((rngI 0 many).map D.int), .lst []]) := by
    have := h1.own (o := .lst [])
    rw [lq, List.append_assoc] at this
    exact this
  refine ws_cut (fun gs G' => ∃ (o3 : Option D) (l : List Int), gs = [some (.ref n), some (.int many), some (.ref G.length), o3, some (.ref (G.length + 1))] ∧ G'[G.length + 1]? = some (.lst (l.map D.int)) ∧ l.Perm (rngI 0 many) ∧ BoxS X n (c + 40) G' ∧ Keep [n] G G') ?_ ?_
  · refine ws_sFor (wRng1_eq (j := many) (G1 := G ++ [.lst ((rngI 0 many).map D.int), .lst []]) (we_eq (by simp [we_eVar])) (by omega)) (fun i gs G' => ∃ (o3 : Option D) (l lf : List Int), gs = [some (.ref n), some (.int many), some (.ref G.length), o3, some (.ref (G.length + 1))] ∧ G'[G.length + 1]? = some (.lst (l.map D.int)) ∧ G'[G.length]? = some (.lst (lf.map D.int)) ∧ (l ++ lf).Perm (rngI 0 many) ∧ lf.length = many.toNat - i ∧ BoxS ((G.length + 1) :: G.length :: X) n (c + i) G' ∧ Keep [n] G G') ⟨none, [], rngI 0 many, rfl, by simp, by simp, List.Perm.refl _, by rw [hrl]; rfl, b1, .app⟩ (fun _ _ _ _ _ => trivial) ?_ ?_
    · rintro i hi gs G' ⟨o3, l, lf, rfl, q1, q2, q3, q4, q5, q6⟩
      have hi' : i < many.toNat := by rw [rngD_length] at hi; exact hi
      obtain ⟨at_, G4, e4, a0, a1, b4, k4⟩ := draw q5 (by omega) (z := (lf.length : Int)) (by omega) (by omega)
      have nA : n ≠ G.length := by omega
      have nB : n ≠ G.length + 1 := by omega
      have r1 := k4.get q1 (by simp; omega)
      have r2 := k4.get q2 (by simp; omega)
      obtain ⟨k, hk⟩ : ∃ k : Nat, at_ = k := ⟨at_.toNat, by omega⟩
      subst hk
      have hk : k < lf.length := by omega
      have l1 : G.length + 1 < G4.length := (List.getElem?_eq_some_iff.mp r1).1
      have l2 : G.length < G4.length := (List.getElem?_eq_some_iff.mp r2).1
      have hpop := pop_ok r2 hk (by omega)
      have hperm : ((l ++ [lf[k]]) ++ lf.eraseIdx k).Perm (rngI 0 many) := by
        refine List.Perm.trans ?_ q3
        rw [List.append_assoc]
        exact List.Perm.append_left l (erase_perm hk)
      have hel : (lf.eraseIdx k).length = many.toNat - (i + 1) := by rw [List.length_eraseIdx_of_lt hk]; omega
      have hne : G.length ≠ G.length + 1 := by omega
      have hln : l.length ≤ many.toNat := by
        have := q3.length_eq
        rw [List.length_append, hrl] at this
        omega
      have hB : (G4.set G.length (.lst ((lf.eraseIdx k).map D.int)))[G.length + 1]? = some (.lst (l.map D.int)) := by rw [List.getElem?_set_ne hne]; exact r1
      have hlen : bLen (.ref G.length) G' = some (.val (.int lf.length), G') := we_eq (by simp [q2])
      have i1 : isLst G' (.ref (G.length + 1)) = true := by unfold isLst; dsimp only; rw [q1]
      have i2 : isLst G' (.ref G.length) = true := by unfold isLst; dsimp only; rw [q2]
      have happ : mLst fAppend (.ref (G.length + 1)) [.int lf[k]] (G4.set G.length (.lst ((lf.eraseIdx k).map D.int))) = some (.val .non, (G4.set G.length (.lst ((lf.eraseIdx k).map D.int))).set (G.length + 1) (.lst (l.map D.int ++ [D.int lf[k]]))) := app_ok hB (by rw [List.length_map]; omega)
      have hi2 : (rngD 0 many.toNat)[i] = D.int (i : Int) := by simp [rngD]
      rw [hi2]
      show asO (gNm 3 (D.int (i : Int)) _ _) _
      simp only [asO_gNm]
      refine ws_mono (R' := fun fl gs G'' => fl = .nx ∧ gs = [some (.ref n), some (.int many), some (.ref G.length), some (.int (i : Int)), some (.ref (G.length + 1))] ∧ G'' = (G4.set G.length (.lst ((lf.eraseIdx k).map D.int))).set (G.length + 1) (.lst (l.map D.int ++ [D.int lf[k]]))) (by simp [we_eVar, i1, i2, hlen, e4, hpop, happ, -we_append, -we_lenR, -isLst_ref]) ?_
      rintro _ _ _ ⟨rfl, rfl, rfl⟩
      refine ⟨_, l ++ [lf[k]], lf.eraseIdx k, rfl, ?_, ?_, hperm, hel, ?_, Keep.setNew (Keep.setNew (q6.trans k4) (Nat.le_refl _)) (by omega)⟩
      · rw [List.getElem?_set_self (by rw [List.length_set]; exact l1), List.map_append]
        rfl
      · rw [List.getElem?_set_ne (Ne.symm hne), List.getElem?_set_self l2]
      · exact (b4.set (List.mem_cons_of_mem _ (List.mem_cons_self ..)) (Ne.symm nA)).set (List.mem_cons_self ..) (Ne.symm nB)
    · rintro gs G' ⟨o3, l, lf, rfl, q1, q2, q3, q4, q5, q6⟩
      rw [rngD_length] at q4 q5
      have : lf = [] := List.length_eq_zero_iff.mp (by omega)
      subst this
      rw [List.append_nil] at q3
      exact ⟨rfl, o3, l, rfl, q1, q3, (q5.up (by omega)).less fun x hx => List.mem_cons_of_mem _ (List.mem_cons_of_mem _ hx), q6⟩
  rintro gs G' ⟨o3, l, rfl, g1, g2, g3, g4⟩
  simp [we_eVar]
  exact lst_end h g3 g4 (by omega) g1 g2
end FI.K00
set_option maxRecDepth 100000
set_option maxHeartbeats 4000000
namespace FI.K00
open PySem L2 PySem.Spec PyProof.Rows FI
theorem nodup_rng {s : Int} : (rngI 0 s).Nodup := by
  unfold List.Nodup rngI
  rw [List.pairwise_map]
  exact List.nodup_range.imp fun {a b} hab e => hab (by omega)
structure HcI (s : Int) (cs : List Tr) (dn free : List Int) : Prop where
  nd : dn.Nodup
  rg : ∀ b ∈ dn, 0 ≤ b ∧ b < s
  dz : ∀ b ∈ dn, wt cs dn b = 0
  fn : free.Nodup
  fr : ∀ b ∈ free, (0 ≤ b ∧ b < s) ∧ b ∉ dn ∧ wt cs dn b = 0
  all : ∀ b : Int, 0 ≤ b → b < s → wt cs dn b = 0 → b ∉ dn → b ∈ free
theorem wt_nil_step {cs : List Tr} {i : Nat} (h : i < cs.length) (b : Int) : wt (cs.take (i + 1)) [] b = wt (cs.take i) [] b + if cs[i].2.1 = b then 1 else 0 := by
  rw [List.take_succ_eq_append_getElem h, wt_app]
  congr 1
  rw [wt_cons]
  simp [show wt [] [] b = 0 from rfl]
theorem wt_sub {cs : List Tr} {dn dn' : List Int} {b : Int} (h : ∀ x ∈ dn, x ∈ dn') : wt cs dn' b ≤ wt cs dn b := by
  unfold wt
  refine List.countP_mono_left fun c _ => ?_
  intro h1
  simp at h1 ⊢
  exact ⟨h1.1, fun h2 => h1.2 (h _ h2)⟩
theorem wtP_le {cs : List Tr} {dn : List Int} {x : Int} {i : Nat} {b : Int} : wtP cs dn x i b ≤ wt cs dn b := by
  unfold wtP
  have h1 : wt (cs.take i) (x :: dn) b ≤ wt (cs.take i) dn b := wt_sub fun y hy => List.mem_cons_of_mem _ hy
  have h2 : wt cs dn b = wt (cs.take i) dn b + wt (cs.drop i) dn b := by rw [← wt_app, List.take_append_drop]
  omega
theorem fin_net {c : Nat} {s : Int} {cs : List Tr} {G : Hh} {Q : Rs D → Hh → Prop} (h : Q (.val (.ref G.length)) (G ++ [.ins c (netFs s cs)])) : we (slim G (some (.val (.ref G.length), G ++ [.ins c (netFs s cs)]))) Q := by
  rw [slim_new (o := .ins c (netFs s cs)) .app (Nat.le_refl _) (by simp) netFs_bw, List.take_left' rfl]
  exact (we_some _ _).mpr h
theorem ws_lenIf {i n : Nat} {k : Int} {xs : List D} {A rest : SS} {gs : Sg} {G : Hh} {R : Fl → Sg → Hh → Prop} (hg : gs[i]? = some (some (.ref n))) (hn : G[n]? = some (.lst xs)) : ws (bSeq (sIf (tB (eOp (dEqv false) (eArgs (d1 bLen) (aCons (eVar i) aNil)) (eC (.int k)))) A bNil) rest gs G) R ↔ if (xs.length : Int) = k then ws (A gs G) (onFl (fun gs G => ws (rest gs G) R) R) else ws (rest gs G) R := by
  by_cases h : (xs.length : Int) = k
  · simp [we_eVar, hg, hn, h]
  · simp [we_eVar, hg, hn, h]
theorem fa_nil {gs : Sg} {G : Hh} : aNil gs G = some (.val [], G) := rfl
theorem fa_cons {fe : SE} {fa : SA} {gs : Sg} {G : Hh} {d : D} {ds : List D} (he : fe gs G = some (.val d, G)) (ha : fa gs G = some (.val ds, G)) : aCons fe fa gs G = some (.val (d :: ds), G) := by
  unfold aCons
  rw [he, bnd_val, ha, bnd_val]
end FI.K00
set_option maxRecDepth 100000
set_option maxHeartbeats 4000000
namespace FI.K00
open PySem L2 PySem.Spec PyProof.Rows FI
theorem fld_at {G : Hh} {n c k : Nat} {cs : List Nat} {fs : List (Nat × D)} {d : D} (h : G[n]? = some (.ins c fs)) (hc : c ∈ cs) (hk : fs.lookup k = some d) : dFld cs k (.ref n) G = some (.val d, G) := by
  unfold dFld
  dsimp only
  rw [h]
  dsimp only
  rw [if_pos hc, hk]
theorem eOp_of {f : D → D → Mm D} {fa fb : SE} {gs : Sg} {G G1 G2 : Hh} {d e : D} {r : Option (Rs D × Hh)} (h1 : fa gs G = some (.val d, G1)) (h2 : fb gs G1 = some (.val e, G2)) (h3 : f d e G2 = r) : eOp f fa fb gs G = r := by
  unfold eOp
  rw [h1, bnd_val, h2, bnd_val, h3]
theorem eUn_of {f : D → Mm D} {fa : SE} {gs : Sg} {G G1 : Hh} {d : D} {r : Option (Rs D × Hh)} (h1 : fa gs G = some (.val d, G1)) (h3 : f d G1 = r) : eUn f fa gs G = r := by
  unfold eUn
  rw [h1, bnd_val, h3]
theorem var_of {i : Nat} {gs : Sg} {G : Hh} {d : D} (h : gs[i]? = some (some d)) : eVar i gs G = some (.val d, G) := we_eq (by simp [we_eVar, h])
theorem ws_tryN {ct : List (Nat × Bool)} {i : Nat} {fb : SS} {fsu : Exc → SS} {gs gs1 : Sg} {G G1 : Hh} {R : Fl → Sg → Hh → Prop} (h : ws (fb gs G) fun fl gs' G' => fl = .nx ∧ gs' = gs1 ∧ G' = G1) (k : R .nx gs1 G1) : ws (sTryAs ct i fb fsu gs G) R := by
  obtain ⟨fl, gs', G', e, rfl, rfl, rfl⟩ := h
  unfold sTryAs
  rw [e]
  exact (ws_some _ _ _).mpr k
theorem ws_tryX {ct : List (Nat × Bool)} {i : Nat} {fb : SS} {fsu : Exc → SS} {gs gs1 : Sg} {G G1 : Hh} {x : Exc} {R : Fl → Sg → Hh → Prop} (h : ws (fb gs G) fun fl gs' G' => fl = .ex x ∧ gs' = gs1 ∧ G' = G1) (hc : ct.lookup x.c = some true) (hi : i < gs1.length) (k : ws (fsu x (gs1.set i none) G1) fun fl gs' G' => match fl with
    | .ex _ => False
    | fl => R fl (gs'.set i none) G') : ws (sTryAs ct i fb fsu gs G) R := by
  obtain ⟨fl, gs', G', e, rfl, rfl, rfl⟩ := h
  unfold sTryAs
  rw [e]
  dsimp only
  rw [hc]
  dsimp only
  rw [if_pos hi]
  obtain ⟨fl, gs2, G2, e2, q⟩ := k
  rw [e2]
  cases fl with
  | ex x => exact q.elim
  | nx => exact ⟨_, _, _, rfl, q⟩
  | rt d => exact ⟨_, _, _, rfl, q⟩
  | bk => exact ⟨_, _, _, rfl, q⟩
  | ct => exact ⟨_, _, _, rfl, q⟩
theorem isx_of {gs : Sg} {G : Hh} {x : Exc} {d : D} {n : Nat} {cc : CC} {b : Bool} (hx : x.c = n) (hm : n ∈ xkt.map (·.1.1)) (h : ccD d = some cc) (hl : xkt.lookup (n, cc) = some b) : eIsX xkt x (eC d) gs G = some (.val (.bl b), G) := by
  subst hx
  unfold eIsX
  rw [if_pos hm]
  show bnd (some (.val d, G)) _ = _
  rw [bnd_val, h]
  dsimp only
  rw [hl]
theorem isxt_of {gs : Sg} {G : Hh} {x : Exc} {fc : SE} {ds : List D} {n : Nat} {b : Bool} (hx : x.c = n) (hm : n ∈ xkt.map (·.1.1)) (h : fc gs G = some (.val (.tup ds), G)) (hl : anyX xkt n ds = some b) : eIsXT xkt x fc gs G = some (.val (.bl b), G) := by
  subst hx
  unfold eIsXT
  rw [if_pos hm, h, bnd_val]
  dsimp only
  rw [hl]
theorem xf_of {gs : Sg} {G : Hh} {x : Exc} {cs : List Nat} {k n : Nat} {d : D} (hx : x.c = n) (hm : n ∈ cs) (hl : x.fs.lookup k = some d) : eXf cs k x gs G = some (.val d, G) := by
  subst hx
  unfold eXf
  rw [if_pos hm, hl]
theorem call_of {F : Fn} {fa : SA} {ds : List D} {gs : Sg} {G G1 : Hh} {r : Option (Rs D × Hh)} (ha : fa gs G = some (.val ds, G1)) (hF : F ds G1 = r) : eCall F fa gs G = r := by
  unfold eCall eArgs
  rw [ha, bnd_val, hF]
theorem fa_consG {fe : SE} {fa : SA} {gs : Sg} {G G1 G2 : Hh} {d : D} {ds : List D} (he : fe gs G = some (.val d, G1)) (ha : fa gs G1 = some (.val ds, G2)) : aCons fe fa gs G = some (.val (d :: ds), G2) := by
  unfold aCons
  rw [he, bnd_val, ha, bnd_val]
theorem tb_of {f : SE} {gs : Sg} {G G1 : Hh} {b : Bool} (h : f gs G = some (.val (.bl b), G1)) : tB f gs G = some (.val b, G1) := we_eq (by rw [we_tB]; refine we_of h ?_; rw [onR_val, asB_bl]; exact ⟨rfl, rfl⟩)
theorem tn_of {f : ST} {gs : Sg} {G G1 : Hh} {b : Bool} (h : f gs G = some (.val b, G1)) : tNot' f gs G = some (.val (!b), G1) := we_eq (by rw [we_tNot]; refine we_of h ?_; rw [onR_val]; exact ⟨rfl, rfl⟩)
theorem tor_of {f h : ST} {gs : Sg} {G G1 G2 : Hh} {b : Bool} (h1 : f gs G = some (.val false, G1)) (h2 : h gs G1 = some (.val b, G2)) : tOr' f h gs G = some (.val b, G2) := we_eq (by rw [we_tOr]; refine we_of h1 ?_; rw [onR_val, if_neg Bool.false_ne_true]; exact we_of h2 ⟨rfl, rfl⟩)
theorem tand_t {f h : ST} {gs : Sg} {G G1 G2 : Hh} {b : Bool} (h1 : f gs G = some (.val true, G1)) (h2 : h gs G1 = some (.val b, G2)) : tAnd' f h gs G = some (.val b, G2) := we_eq (by rw [we_tAnd]; refine we_of h1 ?_; rw [onR_val, if_pos rfl]; exact we_of h2 ⟨rfl, rfl⟩)
theorem tand_f {f h : ST} {gs : Sg} {G G1 : Hh} (h1 : f gs G = some (.val false, G1)) : tAnd' f h gs G = some (.val false, G1) := we_eq (by rw [we_tAnd]; refine we_of h1 ?_; rw [onR_val, if_neg Bool.false_ne_true]; exact ⟨rfl, rfl⟩)
def Plain : D → Prop
  | .int _ => True
  | .bl _ => True
  | .non => True
  | .str x => PyData.canLay0 (.str x) = true
  | _ => False
theorem eqv_str {x y : Str} : PyData.eqv (.str x) (.str y) = decide (x = y) := by
  unfold PyData.eqv
  by_cases h : x = y <;> simp [h]
theorem same_ok {d : D} (h : Plain d) (G : Hh) : F__law_same [d, d] G = some (.val (.bl true), G) := by
  refine we_eq (we_fn rfl ?_)
  cases d with
  | int i => simp [b__law_same, start0, N__law_same, we_eVar, dIs, D.isN, D.isB]
  | bl b => cases b <;> simp [b__law_same, start0, N__law_same, we_eVar, dIs, D.isN, D.isB]
  | non => simp [b__law_same, start0, N__law_same, we_eVar, dIs, D.isN, D.isB]
  | str x =>
    have w1 : PyData.canLay0 (.str x) = true := h
    have e1 : bIsi kt (.str x) (.ty "str") G = some (.val (.bl true), G) := rfl
    have e2 : dEqv false (.str x) (.str x) G = some (.val (.bl true), G) := by
      rw [eqv_rp (neg := false) (Rp.str w1) (Rp.str w1), eqv_str]
      simp
    simp [b__law_same, start0, N__law_same, we_eVar, dIs, D.isN, D.isB, e1, e2]
  | _ => exact h.elim
structure SeqAt (G : Hh) (d : D) (ds : List D) : Prop where
  len : bLen d G = some (.val (.int ds.length), G)
  ix : ∀ (i : Nat) (h : i < ds.length), dIx d (.int (i : Int)) G = some (.val ds[i], G)
theorem seq_ref {G : Hh} {r : Nat} {ds : List D} (h : G[r]? = some (.lst ds)) : SeqAt G (.ref r) ds := ⟨we_eq (by simp [h]), fun i hi => we_eq (by rw [we_ixR, h, asO_some, ixO_lst, atI_nat (by omega), show ((i : Int)).toNat = i from rfl, List.getElem?_eq_getElem hi]; exact ⟨rfl, rfl⟩)⟩
theorem seq_tup {G : Hh} {ds : List D} : SeqAt G (.tup ds) ds := ⟨rfl, fun i hi => we_eq (by rw [we_ixT, atI_nat (by omega), show ((i : Int)).toNat = i from rfl, List.getElem?_eq_getElem hi]; exact ⟨rfl, rfl⟩)⟩
theorem rows_ok {F : Fn} {b : SS} {ds es : List D} {due : D} {G : Hh} {fs : SA} (hs : SeqAt G due es) (hl : ds.length ≤ 1000) (hle : ds.length = es.length) (hF : ∀ i (h : i < ds.length) (h2 : i < es.length), F [ds[i], es[i]] G = some (.val (.bl true), G)) :
    ws (bSeq (sIf (tOr' (tNot' (tB (eArgs (d2 (bIsi kt)) (aCons (eVar 0) (aCons (eC (.ty "tuple")) aNil))))) (tB (eOp (dEqv true) (eArgs (d1 bLen) (aCons (eVar 0) aNil)) (eArgs (d1 bLen) (aCons (eVar 1) aNil))))) (bSeq (sRet (eC (.bl false))) bNil) bNil) (bSeq (sFor (wRng1 (aCons (eArgs (d1 bLen) (aCons (eVar 1) aNil)) aNil)) (gNm 2) (bSeq (sIf (tNot' (tB (eCall F (aCons (eOp dIx (eVar 0) (eVar 2)) (aCons (eOp dIx (eVar 1) (eVar 2)) aNil))))) (bSeq (sRet (eC (.bl false))) bNil) bNil) bNil)) (bSeq (sRet (eC (.bl true))) bNil)) [some (.tup ds), some due, none] G) fun fl gs G' => fl = .rt (.bl true) ∧ G' = G := by
  have hlen := hs.len
  refine ws_cut (fun gs G' => gs = [some (.tup ds), some due, none] ∧ G' = G) (by simp [we_eVar, hlen, hle]) ?_
  rintro gs0 G0 ⟨rfl, rfl⟩
  refine ws_cut (fun gs G' => ∃ o : Option D, gs = [some (.tup ds), some due, o] ∧ G' = G0) ?_ ?_
  · refine ws_sFor (wRng1_eq (j := (es.length : Int)) (G1 := G0) (we_eq (by simp [we_eVar, hlen])) (by omega)) (fun i gs G' => ∃ o : Option D, gs = [some (.tup ds), some due, o] ∧ G' = G0) ⟨none, rfl, rfl⟩ (fun _ _ _ _ _ => trivial) ?_ ?_
    · rintro i hi gs G' ⟨o, rfl, rfl⟩
      have hi' : i < es.length := by rw [rngD_length] at hi; omega
      rw [rngD_get hi]
      simp only [Int.zero_add]
      rw [asO_gNm]
      have hx1 := (seq_tup (G := G') (ds := ds)).ix i (by omega)
      have hx2 := hs.ix i hi'
      have hf := hF i (by omega) hi'
      refine ws_mono (R' := fun fl gs G'' => fl = .nx ∧ gs = [some (.tup ds), some due, some (.int (i : Int))] ∧ G'' = G') (by simp [we_eVar, hx1, hx2, hf, -we_ixT, -we_ixR]) ?_
      rintro _ _ _ ⟨rfl, rfl, rfl⟩
      exact ⟨_, rfl, rfl⟩
    · rintro gs G' ⟨o, rfl, rfl⟩
      exact ⟨rfl, o, rfl, rfl⟩
  rintro gs0 G1 ⟨o, rfl, rfl⟩
  simp
theorem same_row_ok {ds : List D} {due : D} {G : Hh} (hs : SeqAt G due ds) (hl : ds.length ≤ 1000) (hp : ∀ d ∈ ds, Plain d) : F__law_same_row [.tup ds, due] G = some (.val (.bl true), G) := by
  refine we_eq (we_fn rfl ?_)
  refine ws_mono (rows_ok (b := b__law_same_row) (fs := aNil) hs hl rfl fun i h h2 => same_ok (hp _ (List.getElem_mem h)) G) ?_
  rintro _ gs G' ⟨rfl, rfl⟩
  show we (slim G' _) _
  rw [slim_same]
  exact (we_some _ _).mpr ⟨rfl, rfl⟩
theorem same_rows_ok {rows : List (List D)} {due : D} {G : Hh} (hs : SeqAt G due (rows.map D.tup)) (hl : rows.length ≤ 1000) (hp : ∀ r ∈ rows, r.length ≤ 1000 ∧ ∀ d ∈ r, Plain d) : F__law_same_rows [.tup (rows.map D.tup), due] G = some (.val (.bl true), G) := by
  refine we_eq (we_fn rfl ?_)
  refine ws_mono (rows_ok (b := b__law_same_rows) (fs := aNil) hs (by rw [List.length_map]; exact hl) rfl fun i h h2 => ?_) ?_
  · rw [List.length_map] at h
    obtain ⟨p1, p2⟩ := hp _ (List.getElem_mem h)
    rw [List.getElem_map]
    exact same_row_ok seq_tup p1 p2
  rintro _ gs G' ⟨rfl, rfl⟩
  show we (slim G' _) _
  rw [slim_same]
  exact (we_some _ _).mpr ⟨rfl, rfl⟩
def NetAt (G : Hh) (n c : Nat) (m : Int) (cs : List Tr) : Prop := c = 8 ∧ G[n]? = some (.ins c (netFs m cs))
theorem netFs7 {m : Int} {cs : List Tr} : (netFs m cs).lookup 7 = some (.int m) := rfl
theorem netFs5 {m : Int} {cs : List Tr} : (netFs m cs).lookup 5 = some (.tup (cs.map tT)) := rfl
theorem cIns_of {G : Hh} {n c : Nat} {m : Int} {cs : List Tr} (h : NetAt G n c m cs) : c ∈ cIns := by rw [h.1]; decide
theorem slim_app {d : D} {J : Hh} {Q : Rs D → Hh → Prop} (hd : ∀ m, d ≠ .ref m) (hb : d.bw G.length = true) (h : Q (.val d) G) : we (slim G (some (.val d, G ++ J))) Q := by
  rw [slim_old hd hb .app, List.take_left' rfl]
  exact (we_some _ _).mpr h
def onTr (q : Tr → Bool) (f : Tr → D) : D → Option D
  | .tup [.int a, .int b, .int c] => if q (a, b, c) = true then some (f (a, b, c)) else none
  | _ => none
theorem onTr_map {q : Tr → Bool} {f : Tr → D} : ∀ l : List Tr, (l.map tT).filterMap (onTr q f) = (l.filter q).map f
  | [] => rfl
  | x :: l => by
    rw [List.map_cons, List.filterMap_cons, List.filter_cons]
    by_cases h : q x = true
    · rw [if_pos h, show onTr q f (tT x) = some (f x) from if_pos h, List.map_cons, onTr_map l]
    · rw [if_neg h, show onTr q f (tT x) = none from if_neg h, onTr_map l]
theorem we_lcTr {fw : SW} {t : GT} {tt : ST} {fe : SE} {own : List Nat} {gs : Sg} {G G1 : Hh} {Q : Rs D → Hh → Prop} {cs : List Tr} {gd : Hh → Prop} (hw : fw gs G = some (.val (cs.map tT, gd), G1)) (hg : ∀ acc, gd (G1 ++ [.lst acc])) (hk : cs.length ≤ 100000) (q : Tr → Bool) (f : Tr → D)
    (hs : ∀ c ∈ cs, ∀ acc, asO (t (tT c) (wipeG gs own) (G1 ++ [.lst acc])) fun p => p.2 = G1 ++ [.lst acc] ∧ we (tt p.1 (G1 ++ [.lst acc])) fun r G2 => r = .val (q c) ∧ G2 = G1 ++ [.lst acc] ∧ (q c = true → fe p.1 (G1 ++ [.lst acc]) = some (.val (f c), G1 ++ [.lst acc])))
    (he : Q (.val (.ref G1.length)) (G1 ++ [.lst ((cs.filter q).map f)])) : we (eLc fw t tt fe own gs G) Q := by
  refine we_eLcP hw (onTr q f) (by rw [List.length_map]; exact hk) hg ?_ (by rw [onTr_map]; exact he)
  intro d hd acc
  obtain ⟨c, hc, rfl⟩ := List.mem_map.mp hd
  have z := hs c hc acc
  cases e : t (tT c) (wipeG gs own) (G1 ++ [.lst acc]) with
  | none => rw [e] at z; exact z.elim
  | some p =>
    rw [e] at z
    obtain ⟨hp, z⟩ := z
    refine ⟨hp, ?_⟩
    rw [hp]
    refine we_mono z fun r G2 q3 => ?_
    obtain ⟨rfl, rfl, q4⟩ := q3
    refine ⟨rfl, ?_⟩
    split
    · rename_i hq
      exact we_of (q4 hq) ⟨if_pos hq, rfl⟩
    · rename_i hq
      exact if_neg hq
end FI.K00
set_option maxRecDepth 100000
set_option maxHeartbeats 4000000
namespace FI.K00
open PySem L2 PySem.Spec PyProof.Rows FI
def slo (cs : List Tr) : Int := (cs.map fun c => c.2.2).sum
theorem ints_map : ∀ l : List Int, intsOf (l.map .int) = some l
  | [] => rfl
  | x :: l => by
    show (intsOf (l.map .int)).map (x :: ·) = _
    rw [ints_map l]
    rfl
theorem bSum_at {l : List Int} {G : Hh} {r : Nat} (h : G[r]? = some (.lst (l.map .int))) : bSum (.ref r) G = some (.val (.int l.sum), G) := by
  unfold bSum itemsD
  dsimp only
  rw [h]
  dsimp only
  rw [ints_map]
section
variable {m : Int} {cs : List Tr} {c n : Nat} {G : Hh}
theorem slots_ok (h : NetAt G n c m cs) (hl : cs.length ≤ 120) : mkFn 1 N_Net_slots.length b_Net_slots [.ref n] G = some (.val (.int (slo cs)), G) := by
  have f5 := fld_at (cs := cIns) h.2 (cIns_of h) netFs5
  refine we_eq (we_fn rfl ?_)
  unfold b_Net_slots
  refine ws_retE ?_
  rw [we_eArgs, we_aCons]
  refine we_lcTr (cs := cs) (gd := anyH) (G1 := G) (wSeq_tup (eUn_of (var_of rfl) f5)) (fun _ => trivial) (by omega) (fun _ => true) (fun c => .int c.2.2) ?_ ?_
  · intro d hd acc
    rw [asO_gNm]
    refine ⟨rfl, ?_⟩
    rw [we_tTrue]
    exact ⟨rfl, rfl, fun _ => we_eq (by simp [wipeG, start0, N_Net_slots, we_eVar])⟩
  · rw [List.filter_eq_self.mpr (fun _ _ => rfl), onR_val, we_aNil, onR_val, onR_val, d1_one]
    rw [show cs.map (fun c => D.int c.2.2) = (cs.map fun c => c.2.2).map .int by rw [List.map_map]; rfl, bSum_at (l := cs.map fun c => c.2.2) (r := G.length) (by simp), we_some, onR_val]
    show we (slim G _) _
    exact slim_app (fun _ z => nomatch z) rfl ⟨rfl, rfl⟩
theorem slots_of (h : NetAt G n c m cs) (hl : cs.length ≤ 120) {gs : Sg} {i : Nat} (hg : gs[i]? = some (some (.ref n))) : ePropT Tp_slots (eVar i) gs G = some (.val (.int (slo cs)), G) := by
  have e := slots_ok h hl
  obtain ⟨hc, hn⟩ := h
  unfold ePropT
  rw [var_of hg, bnd_val]
  dsimp only
  rw [hn]
  dsimp only
  have : Tp_slots.lookup c = some (mkFn 1 N_Net_slots.length b_Net_slots) := by subst hc; rfl
  rw [this]
  dsimp only
  rw [e]
end
def aIxV (v lo : Nat) : Nat → SA
  | 0 => aNil
  | k + 1 => aCons (eOp dIx (eVar v) (eC (.int (lo : Int)))) (aIxV v (lo + 1) k)
theorem aIxV_ok {ds : List D} {v n : Nat} {gs : Sg} {G : Hh} (hg : gs[v]? = some (some (.ref n))) (hn : G[n]? = some (.lst ds)) : ∀ (k lo : Nat), lo + k = ds.length → aIxV v lo k gs G = some (.val (ds.drop lo), G)
  | 0, lo, h => by
    rw [List.drop_eq_nil_of_le (by omega)]
    rfl
  | k + 1, lo, h => by
    rw [List.drop_eq_getElem_cons (by omega : lo < ds.length)]
    exact fa_cons (eOp_of (var_of hg) rfl ((seq_ref hn).ix lo (by omega))) (aIxV_ok hg hn k (lo + 1) (by omega))
theorem eArgs_of {f : List D → Mm D} {fa : SA} {ds : List D} {gs : Sg} {G G1 : Hh} {r : Option (Rs D × Hh)} (ha : fa gs G = some (.val ds, G1)) (hf : f ds G1 = r) : eArgs f fa gs G = r := by
  unfold eArgs
  rw [ha, bnd_val, hf]
theorem intsOf_map : ∀ l : List Int, intsOf (l.map D.int) = some l
  | [] => rfl
  | x :: l => by
    show (intsOf (l.map D.int)).map (x :: ·) = _
    rw [intsOf_map l]
    rfl
theorem ix_kl {xs : List D} {i : Int} {z : D} {G : Hh} (h : atI xs i = some z) : dIx (.kl xs) (.int i) G = some (.val z, G) := by
  have e : dIxS (.kl xs) (.int i) G = some (.val z, G) := by
    unfold dIxS itemsD
    dsimp only
    rw [h]
  unfold dIx orF
  rw [e]
theorem cell_ok {ns : List Int} {k : Nat} (G : Hh) (hk : k ≤ 63) : ∃ c : Int, F__law_cell [.kl (ns.map .int), .int (k : Int)] G = some (.val (.int c), G) := by
  have hlen : bLen (.kl (ns.map .int)) G = some (.val (.int ns.length), G) := by
    show some (Rs.val (D.int ((ns.map D.int).length : Int)), G) = _
    rw [List.length_map]
  by_cases h : k < ns.length
  · have hx := ix_kl (G := G) (gt_at (st := ns) (i := (k : Int)) (by omega) (by omega))
    refine ⟨gt ns k, we_eq (we_fn rfl ?_)⟩
    simp [b__law_cell, start0, N__law_cell, we_eVar, hlen, h, hx]
  · have hcut : cutL (ns.map D.int) none (some 2) = (cutL ns none (some 2)).map D.int := cutL_map _ _ _ _
    have hsum : bSum (.ref G.length) (G ++ [.lst (cutL (ns.map D.int) none (some 2))]) = some (.val (.int (cutL ns none (some 2)).sum), G ++ [.lst (cutL (ns.map D.int) none (some 2))]) := by
      rw [hcut]
      unfold bSum itemsD
      dsimp only
      rw [show (G ++ [O.lst ((cutL ns none (some 2)).map D.int)])[G.length]? = some (.lst ((cutL ns none (some 2)).map D.int)) from by simp]
      dsimp only
      rw [intsOf_map]
    refine ⟨(cutL ns none (some 2)).sum % 1000003 * 8191 + (k : Int) * 131 + 257, we_eq (we_fn rfl ?_)⟩
    simp [b__law_cell, start0, N__law_cell, we_eVar, hlen, h, hsum, dMod_int, dMul_r]
    exact slim_app (fun _ z => nomatch z) rfl ⟨rfl, rfl⟩
theorem bag_ok {ns : List Int} {k : Nat} (G : Hh) (hk : k ≤ 63) : ∃ a m : Int, F__law_bag [.kl (ns.map .int), .int (k : Int)] G = some (.val (.ref G.length), G ++ [bgO a m]) := by
  obtain ⟨c, hc⟩ := cell_ok (ns := ns) G hk
  have hf : ∀ a m : Int, we (slim G (some (.val (.ref G.length), G ++ [.lst [.int a, .int m]]))) fun r' G' => r' = Rs.val (D.ref G.length) ∧ G' = G ++ [bgO a m] := fun a m => by
    rw [slim_new (o := .lst [.int a, .int m]) .app (Nat.le_refl _) (by simp) rfl, List.take_left' rfl]
    exact (we_some _ _).mpr ⟨rfl, rfl⟩
  by_cases h : 1000000000000000000 ≤ c
  · refine ⟨c - 1000000000000000000, 0, we_eq (we_fn rfl ?_)⟩
    simp [b__law_bag, start0, N__law_bag, we_eVar, hc, dPow_int, okPow, h]
    exact hf _ _
  · refine ⟨c % 2147483647, 1, we_eq (we_fn rfl ?_)⟩
    simp [b__law_bag, start0, N__law_bag, we_eVar, hc, dPow_int, okPow, h, dMod_int]
    exact hf _ _
theorem slim_bl {G G' : Hh} {b : Bool} {Q : Rs D → Hh → Prop} (h : ∀ H, Q (.val (.bl b)) H) : we (slim G (some (.val (.bl b), G'))) Q := by
  unfold slim
  dsimp only
  split
  · exact (we_some _ _).mpr (h _)
  · exact (we_some _ _).mpr (h _)
theorem Keep.take {G G' : Hh} (k : Keep [] G G') : G'.take G.length = G := by
  apply List.ext_getElem?
  intro i
  by_cases h : i < G.length
  · rw [List.getElem?_take_of_lt h, k.2 i h (List.not_mem_nil)]
  · rw [List.getElem?_eq_none (by rw [List.length_take]; omega), List.getElem?_eq_none (by omega)]
theorem Keep.old {G G' : Hh} (k : Keep [] G G') : Old G G' := ⟨k.1, fun i h => .inl (k.2 i h (List.not_mem_nil))⟩
theorem slim_keep0 {d : D} {G G' : Hh} {Q : Rs D → Hh → Prop} (k : Keep [] G G') (hd : ∀ m, d ≠ .ref m) (hb : d.bw G.length = true) (h : Q (.val d) G) : we (slim G (some (.val d, G'))) Q := by
  rw [slim_old hd hb (Keep.old k), Keep.take k]
  exact (we_some _ _).mpr h
theorem sIx_in {n d : Nat} {k : Int} (h0 : 0 ≤ k) (h1 : k ≤ n) : HT.sIx n d (some k) = k.toNat := by
  unfold HT.sIx
  dsimp only
  rw [if_neg (by omega)]
  omega
theorem cut_head {α : Type} {xs : List α} {k : Int} (h0 : 0 ≤ k) (h1 : k ≤ xs.length) : cutL xs none (some k) = xs.take k.toNat := by
  unfold cutL
  rw [sIx_in h0 h1, show HT.sIx xs.length 0 none = 0 from rfl]
  simp
theorem cut_tail {α : Type} {xs : List α} {k : Int} (h0 : 0 ≤ k) (h1 : k ≤ xs.length) : cutL xs (some k) none = xs.drop k.toNat := by
  unfold cutL
  rw [sIx_in h0 h1, show HT.sIx xs.length xs.length none = xs.length from rfl]
  rw [List.take_of_length_le (by rw [List.length_drop]; omega)]
theorem cat_lst {G : Hh} {n m : Nat} {xs ys : List D} (h1 : G[n]? = some (.lst xs)) (h2 : G[m]? = some (.lst ys)) (hl : xs.length + ys.length ≤ 100000) : dAdd (.ref n) (.ref m) G = some (.val (.ref G.length), G ++ [.lst (xs ++ ys)]) := by
  unfold dAdd dCatL
  dsimp only
  rw [h1, h2]
  dsimp only
  rw [if_pos hl]
theorem eAnd_t {f h : SE} {gs : Sg} {G G1 G2 : Hh} {b : Bool} (h1 : f gs G = some (.val (.bl true), G1)) (h2 : h gs G1 = some (.val (.bl b), G2)) : eAnd f h gs G = some (.val (.bl b), G2) := we_eq (by simp [h1, h2])
theorem gSb_of {fo fi : SE} {d x y : D} {gs : Sg} {G G1 G2 G3 : Hh} (h1 : fo gs G = some (.val x, G1)) (h2 : fi gs G1 = some (.val y, G2)) (h3 : dPut x y d G2 = some G3) : gSb fo fi d gs G = some (gs, G3) := by
  unfold gSb
  rw [h1]
  dsimp only
  rw [h2]
  dsimp only
  rw [h3]
theorem put_at {n k : Nat} {xs : List D} {d : D} {G : Hh} (h : G[n]? = some (.lst xs)) (hk : k < xs.length) : dPut (.ref n) (.int k) d G = some (G.set n (.lst (xs.set k d))) := by
  have hp : putO (.lst xs) (.int k) d = some (.lst (xs.set k d)) := by
    unfold putO
    simp [ixN_lt hk]
  unfold dPut
  dsimp only
  rw [h]
  dsimp only
  rw [hp]
theorem tor_t {f h : ST} {gs : Sg} {G G1 : Hh} (h1 : f gs G = some (.val true, G1)) : tOr' f h gs G = some (.val true, G1) := we_eq (by rw [we_tOr]; refine we_of h1 ?_; rw [onR_val, if_pos rfl]; exact ⟨rfl, rfl⟩)
noncomputable def bCh (v : Nat) (mk : Nat → SE) (e : SS) : Nat → Nat → SS
  | _, 0 => e
  | lo, k + 1 => bSeq (sIf (tB (eOp (dEqv false) (eArgs (d1 bLen) (aCons (eVar v) aNil)) (eC (.int (lo : Int))))) (bSeq (sRet (mk lo)) bNil) bNil) (bCh v mk e (lo + 1) k)
theorem bCh_in {v n : Nat} {mk : Nat → SE} {e : SS} {xs : List D} {gs : Sg} {G : Hh} {R : Fl → Sg → Hh → Prop} (hg : gs[v]? = some (some (.ref n))) (hn : G[n]? = some (.lst xs)) (hX : we (mk xs.length gs G) (onR (fun d G1 => R (.rt d) gs G1) fun e G1 => R (.ex e) gs G1)) : ∀ (k lo : Nat), lo ≤ xs.length → xs.length < lo + k → ws (bCh v mk e lo k gs G) R
  | 0, lo, h1, h2 => by omega
  | k + 1, lo, h1, h2 => by
    unfold bCh
    rw [ws_lenIf hg hn]
    split
    · rename_i hlo
      have : lo = xs.length := by omega
      subst this
      exact ws_retE hX
    · exact bCh_in hg hn hX k (lo + 1) (by omega) (by omega)
theorem bCh_out {v n : Nat} {mk : Nat → SE} {e : SS} {xs : List D} {gs : Sg} {G : Hh} {R : Fl → Sg → Hh → Prop} (hg : gs[v]? = some (some (.ref n))) (hn : G[n]? = some (.lst xs)) (he : ws (e gs G) R) : ∀ (k lo : Nat), lo + k ≤ xs.length → ws (bCh v mk e lo k gs G) R
  | 0, lo, h => he
  | k + 1, lo, h => by
    unfold bCh
    rw [ws_lenIf hg hn, if_neg (by omega)]
    exact bCh_out hg hn he k (lo + 1) (by omega)
theorem we_retS {G G' H : Hh} {X : Option (Rs D × Hh)} {x : Rs D} (hX : X = some (x, H)) (hs : slim G (some (x, H)) = some (x, G')) : we X (onR (fun d G1 => we (slim G (some (.val d, G1))) fun r' G'' => r' = x ∧ G'' = G') fun e G1 => we (slim G (some (.exc e, G1))) fun r' G'' => r' = x ∧ G'' = G') := by
  rw [hX, we_some]
  cases x with
  | val d =>
    show we (slim G (some (.val d, H))) _
    rw [hs]
    exact (we_some _ _).mpr ⟨rfl, rfl⟩
  | exc e =>
    show we (slim G (some (.exc e, H))) _
    rw [hs]
    exact (we_some _ _).mpr ⟨rfl, rfl⟩
end FI.K00
set_option maxRecDepth 100000
set_option maxHeartbeats 4000000
namespace FI.K00
open PySem L2 PySem.Spec PyProof.Rows FI
def CapD : D → Prop
  | .int _ => True
  | .bl _ => True
  | .non => True
  | .str _ => True
  | .tup [.int _] => True
  | _ => False
def goodC : D → Bool
  | .int i => decide (1 ≤ i) && decide (i ≤ 999)
  | _ => false
theorem goodC_int {d : D} (h : goodC d = true) : ∃ i : Int, d = .int i ∧ 1 ≤ i ∧ i ≤ 999 := by
  cases d with
  | int i =>
    have h' : (decide (1 ≤ i) && decide (i ≤ 999)) = true := h
    simp at h'
    exact ⟨i, rfl, h'⟩
  | _ => exact nomatch h
theorem net_cap_ok {d : D} (h : CapD d) (G : Hh) : F_Net_is_capacity [d] G = some (.val (.bl (goodC d)), G) := by
  have hi : F_is_integer [d] G = some (.val (.bl (match d with | .int _ => true | _ => false)), G) := by
    refine we_eq (we_fn rfl ?_)
    cases d with
    | int i => simp [b_is_integer, start0, N_is_integer, we_eVar]
    | bl b => simp [b_is_integer, start0, N_is_integer, we_eVar]
    | non => simp [b_is_integer, start0, N_is_integer, we_eVar]
    | str x => simp [b_is_integer, start0, N_is_integer, we_eVar]
    | tup xs => simp [b_is_integer, start0, N_is_integer, we_eVar]
    | _ => exact h.elim
  refine we_eq (we_fn rfl ?_)
  cases d with
  | int i =>
    by_cases h1 : 1 ≤ i
    · by_cases h2 : i ≤ 999 <;> simp [b_Net_is_capacity, start0, N_Net_is_capacity, we_eVar, goodC, h1, h2, hi]
    · simp [b_Net_is_capacity, start0, N_Net_is_capacity, we_eVar, goodC, h1, hi]
  | bl b => simp [b_Net_is_capacity, start0, N_Net_is_capacity, we_eVar, goodC, hi]
  | non => simp [b_Net_is_capacity, start0, N_Net_is_capacity, we_eVar, goodC, hi]
  | str x => simp [b_Net_is_capacity, start0, N_Net_is_capacity, we_eVar, goodC, hi]
  | tup xs => simp [b_Net_is_capacity, start0, N_Net_is_capacity, we_eVar, goodC, hi]
  | _ => exact h.elim
def inX (r p : D) : Exc := ⟨1, [(1, p), (0, r)]⟩
theorem raise_in {e1 e2 : SE} {gs : Sg} {G : Hh} {r p : D} (h1 : e1 gs G = some (.val r, G)) (h2 : e2 gs G = some (.val p, G)) : sRaise 1 2 [(0, 1), (1, 2)] (aCons e1 (aCons e2 aNil)) gs G = some (.ex (inX r p), gs, G) := by
  unfold sRaise
  rw [fa_cons h1 (fa_cons h2 fa_nil)]
  rfl
theorem raise_ws {e1 e2 : SE} {gs : Sg} {G : Hh} {r p : D} {rest : SS} {R : Fl → Sg → Hh → Prop} (h1 : e1 gs G = some (.val r, G)) (h2 : e2 gs G = some (.val p, G)) (k : R (.ex (inX r p)) gs G) : ws (bSeq (sRaise 1 2 [(0, 1), (1, 2)] (aCons e1 (aCons e2 aNil))) rest gs G) R := by
  rw [ws_bSeq]
  exact ⟨_, _, _, raise_in h1 h2, by rw [onFl_ex]; exact k⟩
def numO (lo hi : Int) : D → Bool
  | .int i => decide (lo ≤ i) && decide (i ≤ hi)
  | _ => false
theorem goodC_num {d : D} : goodC d = numO 1 999 d := by cases d <;> rfl
theorem numO_int {lo hi : Int} {d : D} (h : numO lo hi d = true) : ∃ i : Int, d = .int i ∧ lo ≤ i ∧ i ≤ hi := by
  cases d with
  | int i =>
    have h' : (decide (lo ≤ i) && decide (i ≤ hi)) = true := h
    simp at h'
    exact ⟨i, rfl, h'⟩
  | _ => exact nomatch h
theorem law_number_ok {d : D} (h : CapD d) (lo hi : Int) (G : Hh) : F__law_number [d, .int lo, .int hi] G = some (.val (.bl (numO lo hi d)), G) := by
  refine we_eq (we_fn rfl ?_)
  cases d with
  | int i =>
    by_cases h1 : lo ≤ i
    · by_cases h2 : i ≤ hi <;> simp [b__law_number, start0, N__law_number, we_eVar, numO, h1, h2]
    · simp [b__law_number, start0, N__law_number, we_eVar, numO, h1]
  | bl b => simp [b__law_number, start0, N__law_number, we_eVar, numO]
  | non => simp [b__law_number, start0, N__law_number, we_eVar, numO]
  | str x => simp [b__law_number, start0, N__law_number, we_eVar, numO]
  | tup xs => simp [b__law_number, start0, N__law_number, we_eVar, numO]
  | _ => exact h.elim
def isI : D → Bool
  | .int _ => true
  | _ => false
theorem is_int_ok {d : D} (h : CapD d) (G : Hh) : F_is_integer [d] G = some (.val (.bl (isI d)), G) := by
  refine we_eq (we_fn rfl ?_)
  cases d with
  | int i => simp [b_is_integer, start0, N_is_integer, we_eVar, isI]
  | bl b => simp [b_is_integer, start0, N_is_integer, we_eVar, isI]
  | non => simp [b_is_integer, start0, N_is_integer, we_eVar, isI]
  | str x => simp [b_is_integer, start0, N_is_integer, we_eVar, isI]
  | tup xs => simp [b_is_integer, start0, N_is_integer, we_eVar, isI]
  | _ => exact h.elim
def iv : D → Int
  | .int i => i
  | _ => 0
def GivD (G : Hh) : D → Prop
  | .tup xs => (∀ x ∈ xs, CapD x) ∧ xs.length ≤ 4
  | .ref r => ∃ l, G[r]? = some (.lst l)
  | .non => True
  | _ => False
theorem GivD.mono {G G' : Hh} (k : Keep [] G G') {d : D} (h : GivD G d) : GivD G' d := by
  cases d with
  | ref r =>
    obtain ⟨l, hl⟩ := h
    exact ⟨l, k.get hl (List.not_mem_nil)⟩
  | tup xs => exact h
  | non => trivial
  | _ => exact h.elim
def okEnd (s : Int) (a b : D) : Bool := numO 0 (s - 1) a && (numO 0 (s - 1) b && decide (iv a ≠ iv b))
def okCh (s : Int) : D → Bool
  | .tup [a, b] => okEnd s a b
  | .tup [a, b, _] => okEnd s a b
  | _ => false
def isT : D → Bool
  | .tup _ => true
  | _ => false
theorem isi_tup {d : D} {G : Hh} (h : GivD G d) : bIsi kt d (.ty "tuple") G = some (.val (.bl (isT d)), G) := by
  cases d with
  | ref r =>
    obtain ⟨l, hl⟩ := h
    have t : tcD G (.ref r) = some (.b "list") := by
      unfold tcD
      dsimp only
      rw [hl]
    unfold bIsi
    rw [t]
    rfl
  | tup xs => rfl
  | non => rfl
  | _ => exact h.elim
theorem in23 {n : Nat} {G : Hh} : dIn true (.int n) (.tup [.int 2, .int 3]) G = some (.val (.bl (!(decide (n = 2) || decide (n = 3)))), G) := by
  rw [in_rpT (Rp.int n) (Rp.tup (.cons (.int 2) (.cons (.int 3) .nil)))]
  have e : ∀ i j : Int, PyData.eqv (.int i) (.int j) = decide (i = j) := fun i j => by
    unfold PyData.eqv
    by_cases h : i = j <;> simp [h]
  simp only [List.any_cons, List.any_nil, e, Bool.or_false, Bool.true_xor]
  congr 4
  have h2 : decide ((2 : Int) = n) = decide (n = 2) := decide_eq_decide.mpr (by omega)
  have h3 : decide ((3 : Int) = n) = decide (n = 3) := decide_eq_decide.mpr (by omega)
  rw [h2, h3]
theorem end_test {s : Int} {x : D} {G : Hh} (h : CapD x) {gs : Sg} (h1 : gs[1]? = some (some (.int s))) (h2 : gs[2]? = some (some x)) : tOr' (tNot' (tB (eCall F_is_integer (aCons (eVar 2) aNil)))) (tNot' (tB (eChain dLe dLtA (eC (.int 0)) (eVar 2) (eVar 1)))) gs G = some (.val (!numO 0 (s - 1) x), G) := by
  have e := is_int_ok h G
  have ec : tNot' (tB (eCall F_is_integer (aCons (eVar 2) aNil))) gs G = some (.val (!isI x), G) := tn_of (tb_of (call_of (fa_cons (var_of h2) fa_nil) e))
  cases x with
  | int i =>
    refine tor_of ec ?_
    refine we_eq ?_
    by_cases h3 : 0 ≤ i
    · by_cases h4 : i < s
      · have h5 : i ≤ s - 1 := by omega
        simp [we_eVar, h1, h2, h3, h4, numO, h5]
      · have h5 : ¬ i ≤ s - 1 := by omega
        simp [we_eVar, h1, h2, h3, h4, numO, h5]
    · simp [we_eVar, h1, h2, h3, numO]
  | bl b => exact tor_t ec
  | non => exact tor_t ec
  | str y => exact tor_t ec
  | tup xs => exact tor_t ec
  | _ => exact h.elim
theorem is_channel_any {d : D} {s : Int} {G : Hh} (h : GivD G d) : F_is_channel [d, .int s] G = some (.val (.bl (okCh s d)), G) := by
  have it := isi_tup h
  refine we_eq (we_fn rfl ?_)
  unfold b_is_channel
  have fin : ∀ {b : Bool} {fl : Fl} {gs : Sg}, fl = .rt (.bl b) → (match fl with
      | .nx => we (slim G (some (Rs.val D.non, G))) fun r' G' => r' = Rs.val (.bl b) ∧ G' = G
      | .rt d => we (slim G (some (Rs.val d, G))) fun r' G' => r' = Rs.val (.bl b) ∧ G' = G
      | .ex x => we (slim G (some (Rs.exc x, G))) fun r' G' => r' = Rs.val (.bl b) ∧ G' = G
      | x => False) := fun h => by
    subst h
    show we (slim G _) _
    rw [slim_same]
    exact (we_some _ _).mpr ⟨rfl, rfl⟩
  have bad : ∀ {R : Fl → Sg → Hh → Prop} {rest : SS}, R (.rt (.bl false)) [some d, some (.int s), none] G → tOr' (tNot' (tB (eArgs (d2 (bIsi kt)) (aCons (eVar 0) (aCons (eC (.ty "tuple")) aNil))))) (tB (eOp (dIn true) (eArgs (d1 bLen) (aCons (eVar 0) aNil)) (eArgs dTup (aCons (eC (.int 2)) (aCons (eC (.int 3)) aNil))))) [some d, some (.int s), none] G = some (.val true, G) → ws (bSeq (sIf (tOr' (tNot' (tB (eArgs (d2 (bIsi kt)) (aCons (eVar 0) (aCons (eC (.ty "tuple")) aNil))))) (tB (eOp (dIn true) (eArgs (d1 bLen) (aCons (eVar 0) aNil)) (eArgs dTup (aCons (eC (.int 2)) (aCons (eC (.int 3)) aNil)))))) (bSeq (sRet (eC (.bl false))) bNil) bNil) rest [some d, some (.int s), none] G) R := fun hR ht => by
    refine ws_ifY ht ?_
    refine ws_retE (we_of (r := .val (.bl false)) (G := G) rfl ?_)
    rw [onR_val, onFl_rt]
    exact hR
  have iT : tNot' (tB (eArgs (d2 (bIsi kt)) (aCons (eVar 0) (aCons (eC (.ty "tuple")) aNil)))) [some d, some (.int s), none] G = some (.val (!(isT d)), G) := tn_of (tb_of (eArgs_of (ds := [d, .ty "tuple"]) (fa_cons (var_of rfl) (fa_cons rfl fa_nil)) it))
  have two : ∀ {a b : D} {xs : List D}, d = .tup xs → CapD a → CapD b → cutL xs none (some 2) = [a, b] → (xs.length = 2 ∨ xs.length = 3) → atI xs 0 = some a → atI xs 1 = some b → ws (bSeq (sIf (tOr' (tNot' (tB (eArgs (d2 (bIsi kt)) (aCons (eVar 0) (aCons (eC (.ty "tuple")) aNil))))) (tB (eOp (dIn true) (eArgs (d1 bLen) (aCons (eVar 0) aNil)) (eArgs dTup (aCons (eC (.int 2)) (aCons (eC (.int 3)) aNil)))))) (bSeq (sRet (eC (.bl false))) bNil) bNil) (bSeq (sFor (wSeq (eSl (eVar 0) oNone (oSome (eC (.int 2))))) (gNm 2) (bSeq (sIf (tOr' (tNot' (tB (eCall F_is_integer (aCons (eVar 2) aNil)))) (tNot' (tB (eChain dLe dLtA (eC (.int 0)) (eVar 2) (eVar 1))))) (bSeq (sRet (eC (.bl false))) bNil) bNil) bNil)) (bSeq (sRet (eOp (dEqv true) (eOp dIx (eVar 0) (eC (.int 0))) (eOp dIx (eVar 0) (eC (.int 1))))) bNil)) [some d, some (.int s), none] G) fun fl x G' => fl = .rt (.bl (okEnd s a b)) ∧ G' = G := fun {a b xs} hd ha hb hcut hxl h0 h1 => by
    subst hd
    have hin := in23 (n := xs.length) (G := G)
    rw [show (!(decide (xs.length = 2) || decide (xs.length = 3))) = false from by rcases hxl with h | h <;> rw [h] <;> rfl] at hin
    refine ws_ifN (tor_of iT (tb_of (eOp_of (d := .int xs.length) (e := .tup [.int 2, .int 3]) (eArgs_of (ds := [.tup xs]) (fa_cons (var_of rfl) fa_nil) rfl) rfl hin))) ?_
    have hsl : eSl (eVar 0) oNone (oSome (eC (.int 2))) [some (.tup xs), some (.int s), none] G = some (.val (.tup [a, b]), G) := we_eq (by simp [we_eVar, dSl, hcut])
    have et : ∀ (x : D) (o : Option D), CapD x → tOr' (tNot' (tB (eCall F_is_integer (aCons (eVar 2) aNil)))) (tNot' (tB (eChain dLe dLtA (eC (.int 0)) (eVar 2) (eVar 1)))) [some (.tup xs), some (.int s), some x] G = some (.val (!numO 0 (s - 1) x), G) := fun x o hx => end_test hx rfl rfl
    rw [ws_bSeq]
    refine ws_sFor (items := [a, b]) (gd := anyH) (G1 := G) (wSeq_tup hsl) (fun i gs G' => (1 ≤ i → numO 0 (s - 1) a = true) ∧ (2 ≤ i → numO 0 (s - 1) b = true) ∧ (∃ o, gs = [some (.tup xs), some (.int s), o]) ∧ G' = G) ⟨fun h => by omega, fun h => by omega, ⟨none, rfl⟩, rfl⟩ (fun _ _ _ _ _ => trivial) ?_ ?_
    · rintro i hi gs G' ⟨q1, q2, ⟨o, rfl⟩, rfl⟩
      have step : ∀ (x : D), CapD x → (numO 0 (s - 1) x = false → okEnd s a b = false) → (numO 0 (s - 1) x = true → (1 ≤ i + 1 → numO 0 (s - 1) a = true) ∧ (2 ≤ i + 1 → numO 0 (s - 1) b = true)) → asO (gNm 2 x [some (.tup xs), some (.int s), o] G') fun p => ws (bSeq (sIf (tOr' (tNot' (tB (eCall F_is_integer (aCons (eVar 2) aNil)))) (tNot' (tB (eChain dLe dLtA (eC (.int 0)) (eVar 2) (eVar 1))))) (bSeq (sRet (eC (.bl false))) bNil) bNil) bNil p.1 p.2) (onTurn (fun gs G'' => (1 ≤ i + 1 → numO 0 (s - 1) a = true) ∧ (2 ≤ i + 1 → numO 0 (s - 1) b = true) ∧ (∃ o, gs = [some (.tup xs), some (.int s), o]) ∧ G'' = G') (onFl (fun gs G => ws (bSeq (sRet (eOp (dEqv true) (eOp dIx (eVar 0) (eC (.int 0))) (eOp dIx (eVar 0) (eC (.int 1))))) bNil gs G) fun fl x G'' => fl = .rt (.bl (okEnd s a b)) ∧ G'' = G') fun fl x G'' => fl = .rt (.bl (okEnd s a b)) ∧ G'' = G')) := fun x hx hf ht => by
        rw [asO_gNm]
        have e := et x o hx
        cases hn : numO 0 (s - 1) x with
        | false =>
          rw [hn] at e
          refine ws_ifY (G1 := G') e ?_
          refine ws_retE (we_of (r := .val (.bl false)) (G := G') rfl ?_)
          rw [onR_val, onFl_rt, onTurn_rt, onFl_rt, hf hn]
          exact ⟨rfl, rfl⟩
        | true =>
          rw [hn] at e
          refine ws_ifN (G1 := G') e ?_
          rw [ws_bNil, onTurn_nx]
          exact ⟨(ht hn).1, (ht hn).2, ⟨_, rfl⟩, rfl⟩
      have hi' : i = 0 ∨ i = 1 := by simp at hi; omega
      rcases hi' with rfl | rfl
      · exact step a ha (fun hz => by unfold okEnd; rw [hz]; rfl) (fun hz => ⟨fun _ => hz, fun h => by omega⟩)
      · exact step b hb (fun hz => by unfold okEnd; rw [hz, Bool.false_and, Bool.and_false]) (fun hz => ⟨fun _ => q1 (by omega), fun _ => hz⟩)
    · rintro gs G' ⟨q1, q2, ⟨o, rfl⟩, rfl⟩
      have ha1 := q1 (by simp)
      have hb1 := q2 (by simp)
      obtain ⟨i, rfl, -⟩ := numO_int ha1
      obtain ⟨j, rfl, -⟩ := numO_int hb1
      rw [onFl_nx]
      refine ws_retE (we_of (r := .val (.bl (decide (i ≠ j)))) (G := G') (we_eq (by simp [we_eVar, h0, h1])) ?_)
      rw [onR_val]
      unfold okEnd
      rw [ha1, hb1]
      exact ⟨rfl, rfl⟩
  cases d with
  | ref r =>
    refine bad ?_ (tor_t iT)
    exact fin rfl (gs := [])
  | non =>
    refine bad ?_ (tor_t iT)
    exact fin rfl (gs := [])
  | tup xs =>
    have odd : xs.length ≠ 2 → xs.length ≠ 3 → okCh s (.tup xs) = false → ws (bSeq (sIf (tOr' (tNot' (tB (eArgs (d2 (bIsi kt)) (aCons (eVar 0) (aCons (eC (.ty "tuple")) aNil))))) (tB (eOp (dIn true) (eArgs (d1 bLen) (aCons (eVar 0) aNil)) (eArgs dTup (aCons (eC (.int 2)) (aCons (eC (.int 3)) aNil)))))) (bSeq (sRet (eC (.bl false))) bNil) bNil) (bSeq (sFor (wSeq (eSl (eVar 0) oNone (oSome (eC (.int 2))))) (gNm 2) (bSeq (sIf (tOr' (tNot' (tB (eCall F_is_integer (aCons (eVar 2) aNil)))) (tNot' (tB (eChain dLe dLtA (eC (.int 0)) (eVar 2) (eVar 1))))) (bSeq (sRet (eC (.bl false))) bNil) bNil) bNil)) (bSeq (sRet (eOp (dEqv true) (eOp dIx (eVar 0) (eC (.int 0))) (eOp dIx (eVar 0) (eC (.int 1))))) bNil)) [some (.tup xs), some (.int s), none] G) fun fl x G' => fl = .rt (.bl (okCh s (.tup xs))) ∧ G' = G := fun n2 n3 hk => by
      have hin := in23 (n := xs.length) (G := G)
      rw [decide_eq_false n2, decide_eq_false n3] at hin
      rw [hk]
      refine bad ⟨rfl, rfl⟩ (tor_of iT (tb_of (eOp_of (d := .int xs.length) (e := .tup [.int 2, .int 3]) (eArgs_of (ds := [.tup xs]) (fa_cons (var_of rfl) fa_nil) rfl) rfl hin)))
    refine ws_mono (R' := fun fl x G' => fl = .rt (.bl (okCh s (.tup xs))) ∧ G' = G) ?_ ?_
    · obtain ⟨hx, hl⟩ := h
      rcases xs with _ | ⟨a, _ | ⟨b, _ | ⟨c, _ | ⟨e, xs⟩⟩⟩⟩
      · exact odd (by simp) (by simp) rfl
      · exact odd (by simp) (by simp) rfl
      · exact two rfl (hx a (by simp)) (hx b (by simp)) rfl (.inl rfl) rfl rfl
      · exact two rfl (hx a (by simp)) (hx b (by simp)) rfl (.inr rfl) rfl rfl
      · exact odd (by simp) (by simp) rfl
    · rintro fl gs G' ⟨rfl, rfl⟩
      exact fin rfl (gs := [])
  | _ => exact h.elim
end FI.K00
set_option maxRecDepth 100000
set_option maxHeartbeats 4000000
namespace FI.K00
open PySem L2 PySem.Spec PyProof.Rows FI
theorem getK_some {κ : Type} [DecidableEq κ] {l : κ} {kvs : List (κ × D)} : (getK kvs l).isSome = true ↔ ∃ kv ∈ kvs, kv.1 = l := by
  unfold getK
  rw [Option.isSome_map, List.find?_isSome]
  simp
theorem getK_setS {κ : Type} [DecidableEq κ] {k l : κ} {d : D} {kvs : List (κ × D)} : (getK (setK kvs k d) l).isSome = (decide (k = l) || (getK kvs l).isSome) := by
  rw [Bool.eq_iff_iff, getK_some, Bool.or_eq_true, getK_some, decide_eq_true_iff]
  unfold setK
  split
  · rename_i ha
    constructor
    · rintro ⟨kv, h1, h2⟩
      obtain ⟨q, hq, rfl⟩ := List.mem_map.mp h1
      refine .inr ⟨q, hq, ?_⟩
      split at h2 <;> exact h2
    · intro h
      rcases h with rfl | ⟨q, hq, rfl⟩
      · obtain ⟨q, hq, e⟩ := List.any_eq_true.mp ha
        exact ⟨_, List.mem_map.mpr ⟨q, hq, rfl⟩, by have := of_decide_eq_true e; rw [if_pos this]; exact this⟩
      · exact ⟨_, List.mem_map.mpr ⟨q, hq, rfl⟩, by split <;> rfl⟩
  · constructor
    · rintro ⟨kv, h1, h2⟩
      rcases List.mem_append.mp h1 with h1 | h1
      · exact .inr ⟨kv, h1, h2⟩
      · rw [List.mem_singleton.mp h1] at h2
        exact .inl h2
    · intro h
      rcases h with rfl | ⟨q, hq, rfl⟩
      · exact ⟨(k, d), List.mem_append_right _ (List.mem_singleton.mpr rfl), rfl⟩
      · exact ⟨q, List.mem_append_left _ hq, rfl⟩
def capOk : D → Bool
  | .tup [_, _, c] => goodC c
  | _ => true
def pr : D → Int × Int
  | .tup (a :: b :: _) => (iv a, iv b)
  | _ => (0, 0)
def dup (ds : List D) (i : Nat) : Bool := (List.range i).any fun k => decide (pr (ds.getD k .non) = pr (ds.getD i .non))
def wrd1 (s : Int) (d : D) (du : Bool) : Str := if okCh s d = true then (if capOk d = true then (if du = true then "duplicate" else "") else "capacity") else "channel"
def wrd (s : Int) (ds : List D) (i : Nat) : Str := wrd1 s (ds.getD i .non) (dup ds i)
theorem getD_at {ds : List D} {i : Nat} (h : i < ds.length) : ds.getD i .non = ds[i] := by
  rw [List.getD_eq_getElem?_getD, List.getElem?_eq_getElem h]
  rfl
theorem okCh_ints {s : Int} {d : D} (h : okCh s d = true) : ∃ (a b : Int) (xs : List D), d = .tup xs ∧ atI xs 0 = some (.int a) ∧ atI xs 1 = some (.int b) ∧ pr d = (a, b) ∧ 0 ≤ a ∧ a < s ∧ 0 ≤ b ∧ b < s ∧ a ≠ b ∧ (xs = [.int a, .int b] ∨ ∃ c, xs = [.int a, .int b, c]) := by
  have key : ∀ a b : D, okEnd s a b = true → ∃ i j : Int, a = .int i ∧ b = .int j ∧ 0 ≤ i ∧ i < s ∧ 0 ≤ j ∧ j < s ∧ i ≠ j := fun a b h => by
    unfold okEnd at h
    rw [Bool.and_eq_true, Bool.and_eq_true] at h
    obtain ⟨h1, h2, h3⟩ := h
    obtain ⟨i, rfl, i1, i2⟩ := numO_int h1
    obtain ⟨j, rfl, j1, j2⟩ := numO_int h2
    exact ⟨i, j, rfl, rfl, i1, by omega, j1, by omega, of_decide_eq_true h3⟩
  cases d with
  | tup xs =>
    rcases xs with _ | ⟨a, _ | ⟨b, _ | ⟨c, _ | ⟨e, xs⟩⟩⟩⟩
    · exact nomatch h
    · exact nomatch h
    · obtain ⟨i, j, rfl, rfl, q⟩ := key a b h
      exact ⟨i, j, _, rfl, rfl, rfl, rfl, q.1, q.2.1, q.2.2.1, q.2.2.2.1, q.2.2.2.2, .inl rfl⟩
    · obtain ⟨i, j, rfl, rfl, q⟩ := key a b h
      exact ⟨i, j, _, rfl, rfl, rfl, rfl, q.1, q.2.1, q.2.2.1, q.2.2.2.1, q.2.2.2.2, .inr ⟨c, rfl⟩⟩
    · exact nomatch h
  | _ => exact nomatch h
theorem chan_fault_ok {ds : List D} {r i : Nat} {s : Int} {G : Hh} (hr : G[r]? = some (.lst ds)) (hi : i < ds.length) (hi2 : ds.length ≤ 1000) (hg : ∀ d ∈ ds, GivD G d) (hk : ∀ k, k < i → okCh s (ds.getD k .non) = true) : F__law_channel_fault [.int s, .ref r, .int i] G = some (.val (.str (wrd s ds i)), G) := by
  have hd := hg _ (List.getElem_mem hi)
  have hx := (seq_ref hr).ix i hi
  have ew : wrd s ds i = wrd1 s ds[i] (dup ds i) := by
    unfold wrd
    rw [getD_at hi]
  have epr : dup ds i = (List.range i).any fun k => decide (pr (ds.getD k .non) = pr ds[i]) := by
    unfold dup
    rw [getD_at hi]
  rw [ew, epr]
  generalize ds[i] = d at hd hx
  refine we_eq (we_fn rfl ?_)
  unfold b__law_channel_fault
  refine ws_cut (fun gs G' => gs = [some (.int s), some (.ref r), some (.int i), some d, none] ∧ G' = G) ?_ ?_
  · rw [ws_sAsg]
    refine we_of (eOp_of (var_of rfl) (var_of rfl) hx) ?_
    rw [onR_val, asO_gNm]
    exact ⟨rfl, rfl, rfl⟩
  rintro gs0 G0 ⟨rfl, rfl⟩
  have fin : ∀ {w : Str} {fl : Fl} {gs : Sg}, fl = .rt (.str w) → (match fl with
      | .nx => we (slim G0 (some (Rs.val D.non, G0))) fun r' G' => r' = Rs.val (.str w) ∧ G' = G0
      | .rt d => we (slim G0 (some (Rs.val d, G0))) fun r' G' => r' = Rs.val (.str w) ∧ G' = G0
      | .ex x => we (slim G0 (some (Rs.exc x, G0))) fun r' G' => r' = Rs.val (.str w) ∧ G' = G0
      | x => False) := fun h => by
    subst h
    show we (slim G0 _) _
    rw [slim_same]
    exact (we_some _ _).mpr ⟨rfl, rfl⟩
  have iT : ∀ gs : Sg, gs[3]? = some (some d) → tNot' (tB (eArgs (d2 (bIsi kt)) (aCons (eVar 3) (aCons (eC (.ty "tuple")) aNil)))) gs G0 = some (.val (!(isT d)), G0) := fun gs h3 => tn_of (tb_of (eArgs_of (ds := [d, .ty "tuple"]) (fa_cons (var_of h3) (fa_cons rfl fa_nil)) (isi_tup hd)))
  have bad : ∀ {t : ST} {rest : SS} {w : Str} {R : Fl → Sg → Hh → Prop}, R (.rt (.str w)) [some (.int s), some (.ref r), some (.int i), some d, none] G0 → t [some (.int s), some (.ref r), some (.int i), some d, none] G0 = some (.val true, G0) → ws (bSeq (sIf t (bSeq (sRet (eC (.str w))) bNil) bNil) rest [some (.int s), some (.ref r), some (.int i), some d, none] G0) R := fun hR ht => by
    refine ws_ifY ht ?_
    refine ws_retE (we_of rfl ?_)
    rw [onR_val, onFl_rt]
    exact hR
  refine ws_mono (R' := fun fl x G' => fl = .rt (.str (wrd1 s d ((List.range i).any fun k => decide (pr (ds.getD k .non) = pr d)))) ∧ G' = G0) ?_ ?_
  · unfold wrd1
    by_cases hsh : ∃ a b xs, d = .tup xs ∧ (xs = [a, b] ∨ ∃ c, xs = [a, b, c])
    · obtain ⟨a, b, xs, rfl, hxs⟩ := hsh
      have hl : (xs.length = 2 ∨ xs.length = 3) ∧ atI xs 0 = some a ∧ atI xs 1 = some b ∧ a ∈ xs ∧ b ∈ xs ∧ okCh s (.tup xs) = okEnd s a b ∧ pr (.tup xs) = (iv a, iv b) := by
        rcases hxs with rfl | ⟨c, rfl⟩
        · exact ⟨.inl rfl, rfl, rfl, by simp, by simp, rfl, rfl⟩
        · exact ⟨.inr rfl, rfl, rfl, by simp, by simp, rfl, rfl⟩
      obtain ⟨hl, a0, a1, ma, mb, hok, hpr⟩ := hl
      have ca := hd.1 a ma
      have cb := hd.1 b mb
      have hlen : ∀ gs : Sg, gs[3]? = some (some (.tup xs)) → eArgs (d1 bLen) (aCons (eVar 3) aNil) gs G0 = some (.val (.int xs.length), G0) := fun gs h3 => eArgs_of (ds := [.tup xs]) (fa_cons (var_of h3) fa_nil) rfl
      refine ws_ifN (G1 := G0) (tor_of (iT _ rfl) (tor_of (b := false) (tb_of (b := false) (eOp_of (hlen _ rfl) rfl (we_eq (by simp; omega)))) (tb_of (b := false) (eOp_of (hlen _ rfl) rfl (we_eq (by simp; omega)))))) ?_
      have x0 : ∀ gs : Sg, gs[3]? = some (some (.tup xs)) → eOp dIx (eVar 3) (eC (.int 0)) gs G0 = some (.val a, G0) := fun gs h3 => we_eq (by simp [we_eVar, h3, a0])
      have x1 : ∀ gs : Sg, gs[3]? = some (some (.tup xs)) → eOp dIx (eVar 3) (eC (.int 1)) gs G0 = some (.val b, G0) := fun gs h3 => we_eq (by simp [we_eVar, h3, a1])
      have sm : eOp dSub (eVar 0) (eC (.int 1)) [some (.int s), some (.ref r), some (.int i), some (.tup xs), none] G0 = some (.val (.int (s - 1)), G0) := we_eq (by simp [we_eVar])
      have n0 := call_of (F := F__law_number) (fa_cons (x0 _ rfl) (fa_cons (fe := eC (.int 0)) rfl (fa_cons sm fa_nil))) (law_number_ok ca 0 (s - 1) G0)
      have n1 := call_of (F := F__law_number) (fa_cons (x1 _ rfl) (fa_cons (fe := eC (.int 0)) rfl (fa_cons sm fa_nil))) (law_number_ok cb 0 (s - 1) G0)
      rw [hok]
      cases e0 : numO 0 (s - 1) a with
      | false =>
        rw [e0] at n0
        refine bad ?_ (tor_t (tn_of (tb_of n0)))
        rw [if_neg (by unfold okEnd; rw [e0]; simp)]
        exact ⟨rfl, rfl⟩
      | true =>
      cases e1 : numO 0 (s - 1) b with
      | false =>
        rw [e0] at n0
        rw [e1] at n1
        refine bad ?_ (tor_of (tn_of (tb_of n0)) (tn_of (tb_of n1)))
        rw [if_neg (by unfold okEnd; rw [e0, e1]; simp)]
        exact ⟨rfl, rfl⟩
      | true =>
      rw [e0] at n0
      rw [e1] at n1
      refine ws_ifN (G1 := G0) (tor_of (tn_of (tb_of n0)) (tn_of (tb_of n1))) ?_
      obtain ⟨ia, rfl, -⟩ := numO_int e0
      obtain ⟨ib, rfl, -⟩ := numO_int e1
      have hoe : okEnd s (.int ia) (.int ib) = decide (ia ≠ ib) := by
        unfold okEnd
        rw [e0, e1]
        rfl
      have he : tB (eOp (dEqv false) (eOp dIx (eVar 3) (eC (.int 0))) (eOp dIx (eVar 3) (eC (.int 1)))) [some (.int s), some (.ref r), some (.int i), some (.tup xs), none] G0 = some (.val (decide (ia = ib)), G0) := tb_of (eOp_of (x0 _ rfl) (x1 _ rfl) (we_eq (by simp)))
      rw [hoe]
      by_cases hab : ia = ib
      · rw [decide_eq_true hab] at he
        refine bad ?_ he
        rw [if_neg (by simp [hab])]
        exact ⟨rfl, rfl⟩
      rw [decide_eq_false hab] at he
      refine ws_ifN (G1 := G0) he ?_
      rw [if_pos (by simp [hab])]
      have hcap : tAnd' (tB (eOp (dEqv false) (eArgs (d1 bLen) (aCons (eVar 3) aNil)) (eC (.int 3)))) (tNot' (tB (eCall F__law_number (aCons (eOp dIx (eVar 3) (eC (.int 2))) (aCons (eC (.int 1)) (aCons (eC (.int 999)) aNil)))))) [some (.int s), some (.ref r), some (.int i), some (.tup xs), none] G0 = some (.val (!capOk (.tup xs)), G0) := by
        rcases hxs with rfl | ⟨c, rfl⟩
        · exact tand_f (tb_of (b := false) (eOp_of (hlen _ rfl) rfl (we_eq (by simp))))
        · have cc := hd.1 c (by simp)
          have nc := law_number_ok cc 1 999 G0
          rw [← goodC_num] at nc
          refine tand_t (G1 := G0) (tb_of (b := true) (eOp_of (hlen _ rfl) rfl (we_eq (by simp)))) (tn_of (tb_of (call_of (fa_cons (d := c) (we_eq (by simp [we_eVar, atI, ixN])) (fa_cons rfl (fa_cons rfl fa_nil))) nc)))
      cases ec : capOk (.tup xs) with
      | false =>
        rw [ec] at hcap
        refine bad ?_ hcap
        exact ⟨rfl, rfl⟩
      | true =>
      rw [ec] at hcap
      refine ws_ifN (G1 := G0) hcap ?_
      rw [if_pos rfl]
      rw [ws_bSeq]
      refine ws_sFor (wRng1_eq (j := (i : Int)) (G1 := G0) (fa_cons (var_of rfl) fa_nil) (by omega)) (fun j gs G' => (∀ k, k < j → pr (ds.getD k .non) ≠ pr (.tup xs)) ∧ (∃ o, gs = [some (.int s), some (.ref r), some (.int i), some (.tup xs), o]) ∧ G' = G0) ⟨fun k h => by omega, ⟨none, rfl⟩, rfl⟩ (fun _ _ _ _ _ => trivial) ?_ ?_
      · rintro j hj gs G' ⟨q1, ⟨o, rfl⟩, rfl⟩
        rw [rngD_get hj]
        simp only [Int.zero_add]
        rw [asO_gNm]
        rw [rngD_length] at hj
        have hj1 : j < i := by omega
        have hj2 : j < ds.length := by omega
        have hokj := hk j hj1
        obtain ⟨a', b', ys, hy, y0, y1, hp', -⟩ := okCh_ints hokj
        have hxj := (seq_ref hr).ix j hj2
        rw [← getD_at hj2, hy] at hxj
        have g1 : eOp dIx (eVar 1) (eVar 4) [some (.int s), some (.ref r), some (.int i), some (.tup xs), some (.int j)] G' = some (.val (.tup ys), G') := eOp_of (var_of rfl) (var_of rfl) hxj
        have u0 : eOp dIx (eOp dIx (eVar 1) (eVar 4)) (eC (.int 0)) [some (.int s), some (.ref r), some (.int i), some (.tup xs), some (.int j)] G' = some (.val (.int a'), G') := eOp_of g1 rfl (we_eq (by simp [y0]))
        have u1 : eOp dIx (eOp dIx (eVar 1) (eVar 4)) (eC (.int 1)) [some (.int s), some (.ref r), some (.int i), some (.tup xs), some (.int j)] G' = some (.val (.int b'), G') := eOp_of g1 rfl (we_eq (by simp [y1]))
        have t0 : tB (eOp (dEqv false) (eOp dIx (eOp dIx (eVar 1) (eVar 4)) (eC (.int 0))) (eOp dIx (eVar 3) (eC (.int 0)))) [some (.int s), some (.ref r), some (.int i), some (.tup xs), some (.int j)] G' = some (.val (decide (a' = ia)), G') := tb_of (eOp_of u0 (x0 _ rfl) (we_eq (by simp)))
        have t1 : tB (eOp (dEqv false) (eOp dIx (eOp dIx (eVar 1) (eVar 4)) (eC (.int 1))) (eOp dIx (eVar 3) (eC (.int 1)))) [some (.int s), some (.ref r), some (.int i), some (.tup xs), some (.int j)] G' = some (.val (decide (b' = ib)), G') := tb_of (eOp_of u1 (x1 _ rfl) (we_eq (by simp)))
        by_cases hd2 : a' = ia ∧ b' = ib
        · obtain ⟨rfl, rfl⟩ := hd2
          rw [decide_eq_true rfl] at t0 t1
          refine ws_ifY (G1 := G') (tand_t t0 t1) ?_
          refine ws_retE (we_of (r := .val (.str "duplicate")) (G := G') rfl ?_)
          rw [onR_val, onFl_rt, onTurn_rt, onFl_rt]
          rw [if_pos (List.any_eq_true.mpr ⟨j, List.mem_range.mpr hj1, decide_eq_true (hp'.trans hpr.symm)⟩)]
          exact ⟨rfl, rfl⟩
        · refine ws_ifN (G1 := G') ?_ ?_
          · by_cases h0 : a' = ia
            · rw [decide_eq_true h0] at t0
              rw [decide_eq_false (fun h1 => hd2 ⟨h0, h1⟩)] at t1
              exact tand_t t0 t1
            · rw [decide_eq_false h0] at t0
              exact tand_f t0
          · rw [ws_bNil, onTurn_nx]
            refine ⟨fun k hkj => ?_, ⟨_, rfl⟩, rfl⟩
            by_cases hkk : k = j
            · subst hkk
              rw [hp', hpr]
              intro e
              cases e
              exact hd2 ⟨rfl, rfl⟩
            · exact q1 k (by omega)
      · rintro gs G' ⟨q1, ⟨o, rfl⟩, rfl⟩
        rw [rngD_length] at q1
        rw [onFl_nx]
        refine ws_retE (we_of (r := .val (.str "")) (G := G') rfl ?_)
        rw [onR_val]
        rw [if_neg (fun z => by
          obtain ⟨k, hk1, hk2⟩ := List.any_eq_true.mp z
          exact q1 k (by have := List.mem_range.mp hk1; omega) (of_decide_eq_true hk2))]
        exact ⟨rfl, rfl⟩
    · -- no tuple of two or three
      have hno : okCh s d = false := by
        cases hz : okCh s d with
        | false => rfl
        | true =>
          obtain ⟨a, b, xs, rfl, -, -, -, -, -, -, -, -, hxs⟩ := okCh_ints hz
          exact absurd ⟨.int a, .int b, xs, rfl, hxs⟩ hsh
      rw [hno, if_neg Bool.false_ne_true]
      cases d with
      | tup xs =>
        have hlen : eArgs (d1 bLen) (aCons (eVar 3) aNil) [some (.int s), some (.ref r), some (.int i), some (.tup xs), none] G0 = some (.val (.int xs.length), G0) := eArgs_of (ds := [.tup xs]) (fa_cons (var_of rfl) fa_nil) rfl
        rcases xs with _ | ⟨a, _ | ⟨b, _ | ⟨c, _ | ⟨e, xs⟩⟩⟩⟩
        · exact bad ⟨rfl, rfl⟩ (tor_of (iT _ rfl) (tor_t (tb_of (b := true) (eOp_of hlen rfl (we_eq (by simp))))))
        · exact bad ⟨rfl, rfl⟩ (tor_of (iT _ rfl) (tor_t (tb_of (b := true) (eOp_of hlen rfl (we_eq (by simp))))))
        · exact absurd ⟨a, b, _, rfl, .inl rfl⟩ hsh
        · exact absurd ⟨a, b, _, rfl, .inr ⟨c, rfl⟩⟩ hsh
        · refine bad ⟨rfl, rfl⟩ (tor_of (iT _ rfl) (tor_of (G1 := G0) (tb_of (b := false) (eOp_of hlen rfl (we_eq (by simp; omega)))) (tb_of (b := true) (eOp_of hlen rfl (we_eq (by simp; omega))))))
      | ref n => exact bad ⟨rfl, rfl⟩ (tor_t (iT _ rfl))
      | non => exact bad ⟨rfl, rfl⟩ (tor_t (iT _ rfl))
      | _ => exact hd.elim
  · rintro fl gs G' ⟨rfl, rfl⟩
    exact fin rfl (gs := [])
end FI.K00
set_option maxRecDepth 100000
set_option maxHeartbeats 4000000
namespace FI.K00
open PySem L2 PySem.Spec PyProof.Rows FI
def firstW (s : Int) (ds : List D) : Option Nat := (List.range ds.length).find? fun i => decide (wrd s ds i ≠ "")
theorem firstW_some {s : Int} {ds : List D} {i : Nat} (h : firstW s ds = some i) : i < ds.length ∧ wrd s ds i ≠ "" ∧ ∀ j, j < i → wrd s ds j = "" := by
  unfold firstW at h
  obtain ⟨h1, h2, h3⟩ := List.find?_range_eq_some.mp h
  refine ⟨List.mem_range.mp h2, of_decide_eq_true h1, fun j hj => ?_⟩
  have := h3 j hj
  simpa using this
theorem firstW_none {s : Int} {ds : List D} (h : firstW s ds = none) : ∀ i, i < ds.length → wrd s ds i = "" := fun i hi => by
  unfold firstW at h
  have := List.find?_eq_none.mp h i (List.mem_range.mpr hi)
  simpa using this
theorem str_ne : ("channel" : Str) ≠ "" ∧ ("capacity" : Str) ≠ "" ∧ ("duplicate" : Str) ≠ "" := by decide +kernel
theorem wrd1_nil {s : Int} {d : D} {du : Bool} : wrd1 s d du = "" ↔ okCh s d = true ∧ capOk d = true ∧ du = false := by
  obtain ⟨n1, n2, n3⟩ := str_ne
  unfold wrd1
  cases okCh s d <;> cases capOk d <;> cases du <;> simp [n1, n2, n3]
theorem words_lay : PyData.canLay0 (.str "channel") = true ∧ PyData.canLay0 (.str "capacity") = true ∧ PyData.canLay0 (.str "duplicate") = true ∧ PyData.canLay0 (.str "") = true ∧ PyData.canLay0 (.str "stages") = true ∧ PyData.canLay0 (.str "limit") = true ∧ PyData.canLay0 (.str "circle") = true := by decide +kernel
theorem wrd1_lay {s : Int} {d : D} {du : Bool} : PyData.canLay0 (.str (wrd1 s d du)) = true := by
  obtain ⟨n1, n2, n3, n4, -⟩ := words_lay
  unfold wrd1
  cases okCh s d <;> cases capOk d <;> cases du <;> assumption
theorem in_dK {G : Hh} {r : Nat} {kvs : List (List Key × D)} {a b : Int} (h : G[r]? = some (.dT kvs)) : dIn false (.tup [.int a, .int b]) (.ref r) G = some (.val (.bl (getK kvs [.inl a, .inl b]).isSome), G) := in_dT (c := (a, b, 0)) h
theorem put_dK {G : Hh} {r : Nat} {kvs : List (List Key × D)} {a b : Int} {v : D} (h : G[r]? = some (.dT kvs)) (hl : kvs.length < 100000) : dPut (.ref r) (.tup [.int a, .int b]) v G = some (G.set r (.dT (setK kvs [.inl a, .inl b] v))) := by
  have ep : putO (O.dT kvs) (D.tup [.int a, .int b]) v = some (.dT (setK kvs [.inl a, .inl b] v)) := by
    show (if kvs.length < 100000 then some (O.dT (setK kvs [.inl a, .inl b] v)) else none) = _
    rw [if_pos hl]
  unfold dPut
  dsimp only
  rw [h]
  dsimp only
  rw [ep]
def KvI (ds : List D) (j : Nat) (kvs : List (List Key × D)) : Prop := kvs.length ≤ j ∧ ∀ p : Int × Int, (getK kvs [.inl p.1, .inl p.2]).isSome = (List.range j).any fun k => decide (pr (ds.getD k .non) = p)
theorem check_any {ds : List D} {s : Int} {G : Hh} (hg : ∀ d ∈ ds, GivD G d) (hl : ds.length ≤ 1000) : F_check_channels [.tup ds, .int s] G = match firstW s ds with
    | none => some (.val .non, G)
    | some i => some (.exc (inX (.str (wrd s ds i)) (.int i)), G) := by
  have len : (enumD ds).length = ds.length := by simp [enumD]
  have eat : ∀ j (h : j < (enumD ds).length) (h2 : j < ds.length), (enumD ds)[j] = .tup [.int j, ds[j]] := fun j h h2 => by
    have := enumD_map (fun d => d) ds (i := j) (by rw [List.map_id']; exact h) h2
    simpa using this
  have turn : ∀ (j : Nat) (hj : j < ds.length) (kvs : List (List Key × D)) (o3 o4 : Option D) (P : Sg → Hh → Prop) (R : Fl → Sg → Hh → Prop), KvI ds j kvs → (wrd s ds j = "" → ∀ kvs', KvI ds (j + 1) kvs' → P [some (.tup ds), some (.int s), some (.ref G.length), some (.int j), some ds[j]] (G ++ [.dT kvs'])) → (wrd s ds j ≠ "" → R (.ex (inX (.str (wrd s ds j)) (.int j))) [some (.tup ds), some (.int s), some (.ref G.length), some (.int j), some ds[j]] (G ++ [.dT kvs])) →
      asO (gTp 2 (gsCons (gNm 3) (gsCons (gNm 4) gsNil)) (.tup [.int j, ds[j]]) [some (.tup ds), some (.int s), some (.ref G.length), o3, o4] (G ++ [.dT kvs])) fun p => ws (bSeq (sIf (tNot' (tB (eCall F_is_channel (aCons (eVar 4) (aCons (eVar 1) aNil))))) (bSeq (sRaise 1 2 [(0, 1), (1, 2)] (aCons (eC (.str "channel")) (aCons (eVar 3) aNil))) bNil) bNil) (bSeq (sIf (tAnd' (tB (eOp (dEqv false) (eArgs (d1 bLen) (aCons (eVar 4) aNil)) (eC (.int 3)))) (tNot' (tB (eCall F_Net_is_capacity (aCons (eOp dIx (eVar 4) (eC (.int 2))) aNil))))) (bSeq (sRaise 1 2 [(0, 1), (1, 2)] (aCons (eC (.str "capacity")) (aCons (eVar 3) aNil))) bNil) bNil) (bSeq (sIf (tB (eOp (dIn false) (eSl (eVar 4) oNone (oSome (eC (.int 2)))) (eVar 2))) (bSeq (sRaise 1 2 [(0, 1), (1, 2)] (aCons (eC (.str "duplicate")) (aCons (eVar 3) aNil))) bNil) bNil) (bSeq (sAsg (eC (.bl true)) (gSb (eVar 2) (eSl (eVar 4) oNone (oSome (eC (.int 2)))))) bNil))) p.1 p.2) (onTurn P R) := fun j hj kvs o3 o4 P R hk hP hR => by
    have hd0 := hg _ (List.getElem_mem hj)
    have ew : wrd s ds j = wrd1 s ds[j] (dup ds j) := by
      unfold wrd
      rw [getD_at hj]
    have epr : dup ds j = (List.range j).any fun k => decide (pr (ds.getD k .non) = pr ds[j]) := by
      unfold dup
      rw [getD_at hj]
    have epj : pr (ds.getD j .non) = pr ds[j] := by rw [getD_at hj]
    rw [ew] at hP hR
    clear ew
    generalize ds[j] = d at hd0 hP hR epr epj ⊢
    show asO (some ([some (.tup ds), some (.int s), some (.ref G.length), some (.int j), some d], G ++ [.dT kvs])) _
    rw [asO_some]
    dsimp only
    obtain ⟨H, hH⟩ : ∃ H, G ++ [O.dT kvs] = H := ⟨_, rfl⟩
    have kH : Keep [] G H := by rw [← hH]; exact .app
    have hd := hd0.mono kH
    have gH : H[G.length]? = some (.dT kvs) := by rw [← hH]; simp
    rw [hH] at hR ⊢
    have ec := is_channel_any (s := s) hd
    have t1 : tNot' (tB (eCall F_is_channel (aCons (eVar 4) (aCons (eVar 1) aNil)))) [some (.tup ds), some (.int s), some (.ref G.length), some (.int j), some d] H = some (.val (!okCh s d), H) := tn_of (tb_of (call_of (fa_cons (var_of rfl) (fa_cons (var_of rfl) fa_nil)) ec))
    cases e1 : okCh s d with
    | false =>
      rw [e1] at t1
      have hw : wrd1 s d (dup ds j) = "channel" := by unfold wrd1; rw [e1]; rfl
      rw [hw] at hR
      refine ws_ifY (G1 := H) t1 ?_
      refine raise_ws (r := .str "channel") (p := .int j) rfl (var_of rfl) ?_
      rw [onFl_ex, onTurn_ex]
      exact hR str_ne.1
    | true =>
    rw [e1] at t1
    refine ws_ifN (G1 := H) t1 ?_
    obtain ⟨a, b, xs, rfl, a0, a1, hpr, -, -, -, -, -, hxs⟩ := okCh_ints e1
    have hlen : eArgs (d1 bLen) (aCons (eVar 4) aNil) [some (.tup ds), some (.int s), some (.ref G.length), some (.int j), some (.tup xs)] H = some (.val (.int xs.length), H) := eArgs_of (ds := [.tup xs]) (fa_cons (var_of rfl) fa_nil) rfl
    have t2 : tAnd' (tB (eOp (dEqv false) (eArgs (d1 bLen) (aCons (eVar 4) aNil)) (eC (.int 3)))) (tNot' (tB (eCall F_Net_is_capacity (aCons (eOp dIx (eVar 4) (eC (.int 2))) aNil)))) [some (.tup ds), some (.int s), some (.ref G.length), some (.int j), some (.tup xs)] H = some (.val (!capOk (.tup xs)), H) := by
      rcases hxs with rfl | ⟨c, rfl⟩
      · exact tand_f (tb_of (b := false) (eOp_of hlen rfl (we_eq (by simp))))
      · have cc := hd.1 c (by simp)
        have nc := net_cap_ok cc H
        refine tand_t (G1 := H) (tb_of (b := true) (eOp_of hlen rfl (we_eq (by simp)))) (tn_of (tb_of (call_of (fa_cons (d := c) (we_eq (by simp [we_eVar, atI, ixN])) fa_nil) nc)))
    cases e2 : capOk (.tup xs) with
    | false =>
      rw [e2] at t2
      have hw : wrd1 s (.tup xs) (dup ds j) = "capacity" := by unfold wrd1; rw [e1, e2]; rfl
      rw [hw] at hR
      refine ws_ifY (G1 := H) t2 ?_
      refine raise_ws (r := .str "capacity") (p := .int j) rfl (var_of rfl) ?_
      rw [onFl_ex, onTurn_ex]
      exact hR str_ne.2.1
    | true =>
    rw [e2] at t2
    refine ws_ifN (G1 := H) t2 ?_
    have hcut : cutL xs none (some 2) = [.int a, .int b] := by rcases hxs with rfl | ⟨c, rfl⟩ <;> rfl
    have hsl : eSl (eVar 4) oNone (oSome (eC (.int 2))) [some (.tup ds), some (.int s), some (.ref G.length), some (.int j), some (.tup xs)] H = some (.val (.tup [.int a, .int b]), H) := we_eq (by simp [we_eVar, dSl, hcut])
    have hin := in_dK (a := a) (b := b) gH
    have hdu : (getK kvs [.inl a, .inl b]).isSome = dup ds j := by
      rw [epr, hpr]
      exact hk.2 (a, b)
    rw [hdu] at hin
    have t3 : tB (eOp (dIn false) (eSl (eVar 4) oNone (oSome (eC (.int 2)))) (eVar 2)) [some (.tup ds), some (.int s), some (.ref G.length), some (.int j), some (.tup xs)] H = some (.val (dup ds j), H) := tb_of (eOp_of hsl (var_of rfl) hin)
    cases e3 : dup ds j with
    | true =>
      rw [e3] at t3
      have hw : wrd1 s (.tup xs) (dup ds j) = "duplicate" := by unfold wrd1; rw [e1, e2, e3]; rfl
      rw [hw] at hR
      refine ws_ifY (G1 := H) t3 ?_
      refine raise_ws (r := .str "duplicate") (p := .int j) rfl (var_of rfl) ?_
      rw [onFl_ex, onTurn_ex]
      exact hR str_ne.2.2
    | false =>
    rw [e3] at t3
    refine ws_ifN (G1 := H) t3 ?_
    refine ws_bSeq.mpr ?_
    rw [ws_sAsg]
    refine we_of (r := .val (.bl true)) (G := H) rfl ?_
    rw [onR_val, gSb_of (var_of rfl) hsl (put_dK gH (by have := hk.1; omega)), asO_some, onFl_nx, ws_bNil, onTurn_nx]
    have hset : H.set G.length (.dT (setK kvs [.inl a, .inl b] (.bl true))) = G ++ [.dT (setK kvs [.inl a, .inl b] (.bl true))] := by
      rw [← hH, List.set_append_right _ _ (Nat.le_refl _), Nat.sub_self]
      rfl
    rw [hset]
    refine hP (wrd1_nil.mpr ⟨e1, e2, e3⟩) _ ⟨Nat.le_trans setK_len (by have := hk.1; omega), fun p => ?_⟩
    rw [getK_setS, hk.2 p, List.range_succ, List.any_append, List.any_cons, List.any_nil, Bool.or_false, Bool.or_comm]
    congr 1
    rw [epj, hpr]
    refine decide_eq_decide.mpr ?_
    constructor
    · intro h
      cases p
      simp at h
      simp [h]
    · rintro rfl
      rfl
  have k0 : KvI ds 0 [] := ⟨Nat.le_refl _, fun p => rfl⟩
  cases hf : firstW s ds with
  | none =>
    have hw := firstW_none hf
    refine we_eq (we_fn rfl ?_)
    unfold b_check_channels
    refine ws_cut (fun gs G1 => gs = [some (.tup ds), some (.int s), some (.ref G.length), none, none] ∧ G1 = G ++ [.dT []]) (by simp [start0, N_check_channels, dNewT]) ?_
    rintro gs0 G0 ⟨rfl, rfl⟩
    rw [ws_bSeq]
    refine ws_sFor (items := enumD ds) (gd := anyH) (G1 := G ++ [.dT []]) (by unfold wEnum; rfl) (fun j gs G2 => ∃ (kvs : List (List Key × D)) (o3 o4 : Option D), gs = [some (.tup ds), some (.int s), some (.ref G.length), o3, o4] ∧ G2 = G ++ [.dT kvs] ∧ KvI ds j kvs) ⟨[], none, none, rfl, rfl, k0⟩ (fun _ _ _ _ _ => trivial) ?_ ?_
    · rintro j hj gs G2 ⟨kvs, o3, o4, rfl, rfl, hk⟩
      have hj2 : j < ds.length := by rw [← len]; exact hj
      rw [eat j hj hj2]
      exact turn j hj2 kvs o3 o4 _ _ hk (fun _ kvs' hk' => ⟨kvs', _, _, rfl, rfl, hk'⟩) (fun h => absurd (hw j hj2) h)
    · rintro gs G2 ⟨kvs, o3, o4, rfl, rfl, hk⟩
      rw [onFl_nx, ws_bNil]
      show we (slim G _) _
      rw [slim_old (by simp) rfl Old.app, List.take_left' rfl]
      exact (we_some _ _).mpr ⟨rfl, rfl⟩
  | some i =>
    obtain ⟨hi, hwi, hw⟩ := firstW_some hf
    refine we_eq (we_fn rfl ?_)
    unfold b_check_channels
    refine ws_cut (fun gs G1 => gs = [some (.tup ds), some (.int s), some (.ref G.length), none, none] ∧ G1 = G ++ [.dT []]) (by simp [start0, N_check_channels, dNewT]) ?_
    rintro gs0 G0 ⟨rfl, rfl⟩
    rw [ws_bSeq]
    refine ws_sFor (items := enumD ds) (gd := anyH) (G1 := G ++ [.dT []]) (by unfold wEnum; rfl) (fun j gs G2 => ∃ (kvs : List (List Key × D)) (o3 o4 : Option D), gs = [some (.tup ds), some (.int s), some (.ref G.length), o3, o4] ∧ G2 = G ++ [.dT kvs] ∧ KvI ds j kvs ∧ j ≤ i) ⟨[], none, none, rfl, rfl, k0, Nat.zero_le _⟩ (fun _ _ _ _ _ => trivial) ?_ ?_
    · rintro j hj gs G2 ⟨kvs, o3, o4, rfl, rfl, hk, hji⟩
      have hj2 : j < ds.length := by rw [← len]; exact hj
      rw [eat j hj hj2]
      refine turn j hj2 kvs o3 o4 _ _ hk (fun h kvs' hk' => ⟨kvs', _, _, rfl, rfl, hk', ?_⟩) (fun h => ?_)
      · have : j ≠ i := fun e => hwi (by rw [← e]; exact h)
        omega
      · have : j = i := by
          rcases Nat.lt_or_eq_of_le hji with h1 | h1
          · exact absurd (hw j h1) h
          · exact h1
        subst this
        rw [onFl_ex]
        show we (slim G _) _
        rw [slim_oldX rfl Old.app, List.take_left' rfl]
        exact (we_some _ _).mpr ⟨rfl, rfl⟩
    · rintro gs G2 ⟨kvs, o3, o4, rfl, rfl, hk, hji⟩
      rw [len] at hji
      omega
end FI.K00
set_option maxRecDepth 100000
set_option maxHeartbeats 4000000
namespace FI.K00
open PySem L2 PySem.Spec PyProof.Rows FI
theorem popI {G : Hh} {A : Nat} {l : List Int} {z : Int} (h : G[A]? = some (.lst ((l ++ [z]).map .int))) : mLst fPop (.ref A) [] G = some (.val (.int z), G.set A (.lst (l.map .int))) := by
  refine mLst_of h ?_
  unfold fPop
  dsimp only
  rw [List.map_append]
  simp
theorem app_stmt {v n : Nat} {fe : SE} {rest : SS} {gs : Sg} {G G1 : Hh} {d : D} {xs ys : List D} {R : Fl → Sg → Hh → Prop} (hg : gs[v]? = some (some (.ref n))) (h0 : G[n]? = some (.lst ys)) (he : fe gs G = some (.val d, G1)) (h1 : G1[n]? = some (.lst xs)) (hl : xs.length < 100000) (k : ws (rest gs (G1.set n (.lst (xs ++ [d])))) R) : ws (bSeq (sDrop (eMtL (mLst fAppend) (eVar v) (aCons fe aNil))) rest gs G) R := by
  have i1 : isLst G (.ref n) = true := by unfold isLst; dsimp only; rw [h0]
  have e : eMtL (mLst fAppend) (eVar v) (aCons fe aNil) gs G = some (.val .non, G1.set n (.lst (xs ++ [d]))) := by
    unfold eMtL
    rw [var_of hg, bnd_val, if_pos i1, fa_consG he fa_nil, bnd_val]
    exact app_ok h1 hl
  rw [ws_bSeq, ws_sDrop]
  refine we_of e ?_
  rw [onR_val, onFl_nx]
  exact k
def tr0 (d : D) : Tr := ((pr d).1, (pr d).2, 1)
def Closed (cs : List Tr) (S : List Int) : Prop := ∀ x ∈ S, ∃ c ∈ cs, c.1 ∈ S ∧ c.2.1 = x
def Circ (cs : List Tr) : Prop := ∃ S, S ≠ [] ∧ Closed cs S
theorem mul_at {G : Hh} {r : Nat} {k : Int} (h : G[r]? = some (.lst [.int 0])) (h0 : 0 ≤ k) (h1 : k ≤ 1000) : dMul (.ref r) (.int k) G = some (.val (.ref G.length), G ++ [.lst (ml k.toNat fun _ => 0)]) := by
  show dMulL (.ref r) (.int k) G = _
  unfold dMulL
  dsimp only
  rw [h]
  dsimp only
  rw [if_pos ⟨h0, by omega, by simp; omega⟩]
  have e : (List.replicate k.toNat [D.int 0]).flatten = ml k.toNat fun _ => 0 := by
    unfold ml
    apply List.ext_getElem
    · simp
    · intro i h1 h2
      simp
  rw [e]
theorem set0' {G : Hh} {a b x : O} : (G ++ [a, b]).set G.length x = G ++ [x, b] := by
  rw [List.set_append_right _ _ (Nat.le_refl _), Nat.sub_self]; rfl
theorem at0' {G : Hh} {a b : O} : (G ++ [a, b])[G.length]? = some a := by simp
section
variable {ds : List D} {S : Nat}
theorem item_at (hk : ∀ d ∈ ds, okCh S d = true) {i : Nat} (hi : i < ds.length) : ∃ xs, ds[i] = .tup xs ∧ atI xs 0 = some (.int ((ds.map tr0)[i]'(by rw [List.length_map]; exact hi)).1) ∧ atI xs 1 = some (.int ((ds.map tr0)[i]'(by rw [List.length_map]; exact hi)).2.1) ∧ OkC S ((ds.map tr0)[i]'(by rw [List.length_map]; exact hi)) := by
  obtain ⟨a, b, xs, hd, a0, a1, hp, p0, p1, p2, p3, p4, -⟩ := okCh_ints (hk _ (List.getElem_mem hi))
  have e : (ds.map tr0)[i]'(by rw [List.length_map]; exact hi) = (a, b, 1) := by
    rw [List.getElem_map]
    unfold tr0
    rw [hp]
  rw [e]
  exact ⟨xs, hd, a0, a1, p0, p1, p2, p3, p4, Int.le_refl _, (by show (1 : Int) ≤ 999; decide)⟩
theorem tr0_ok (hk : ∀ d ∈ ds, okCh S d = true) : ∀ c ∈ ds.map tr0, OkC S c := fun c hc => by
  obtain ⟨i, hi, rfl⟩ := List.mem_iff_getElem.mp hc
  rw [List.length_map] at hi
  obtain ⟨xs, -, -, -, h⟩ := item_at hk hi
  exact h
structure HcJ (cs : List Tr) (S : Nat) (dn free : List Int) : Prop where
  I : HcI S cs dn free
  cl : ∀ T, Closed cs T → ∀ x ∈ dn, x ∉ T
theorem HcJ.fin {cs : List Tr} {S : Nat} {dn : List Int} (hc : ∀ c ∈ cs, OkC S c) (h : HcJ cs S dn []) : (dn.length < S) ↔ Circ cs := by
  constructor
  · intro hl
    refine ⟨(rngI 0 S).filter fun x => decide (x ∉ dn), fun e => ?_, fun x hx => ?_⟩
    · have hsub : ∀ b ∈ rngI 0 (S : Int), b ∈ dn := fun b hb => by
        by_cases hd : b ∈ dn
        · exact hd
        · have : b ∈ (rngI 0 (S : Int)).filter fun x => decide (x ∉ dn) := List.mem_filter.mpr ⟨hb, decide_eq_true hd⟩
          rw [e] at this
          exact absurd this (List.not_mem_nil)
      have := nodup_rng.length_le_of_subset (l₁ := rngI 0 S) (l₂ := dn) hsub
      rw [rngI_len] at this
      omega
    · obtain ⟨h1, h2⟩ := List.mem_filter.mp hx
      have h2 := of_decide_eq_true h2
      obtain ⟨x0, x1⟩ := mem_rngI.mp h1
      have hne : wt cs dn x ≠ 0 := fun hz => absurd (h.I.all x x0 x1 hz h2) (List.not_mem_nil)
      have : ¬ ∀ c ∈ cs, c.2.1 = x → c.1 ∈ dn := fun hz => hne (wt_zero.mpr hz)
      simp only [Classical.not_forall] at this
      obtain ⟨c, hcm, hcx, hcd⟩ := this
      have hco := hc c hcm
      exact ⟨c, hcm, List.mem_filter.mpr ⟨mem_rngI.mpr ⟨hco.1, hco.2.1⟩, decide_eq_true hcd⟩, hcx⟩
  · rintro ⟨T, hT, hcl⟩
    obtain ⟨x, hx⟩ := List.exists_mem_of_ne_nil T hT
    obtain ⟨c, hcm, -, hcx⟩ := hcl x hx
    have hco := hc c hcm
    have hxd : x ∉ dn := fun hd => h.cl T hcl x hd hx
    have nd2 : (x :: dn).Nodup := List.nodup_cons.mpr ⟨hxd, h.I.nd⟩
    have := nd2.length_le_of_subset (l₂ := rngI 0 S) fun b hb => by
      rcases List.mem_cons.mp hb with rfl | hb
      · rw [← hcx]
        exact mem_rngI.mpr ⟨hco.2.2.1, hco.2.2.2.1⟩
      · exact mem_rngI.mpr (h.I.rg b hb)
    rw [rngI_len] at this
    simp at this
    omega
theorem has_circle_any (hS : S ≤ 1000) (hk : ∀ d ∈ ds, okCh S d = true) (hl : ds.length ≤ 1000) (G : Hh) : ∃ b : Bool, F_has_circle [.tup ds, .int S] G = some (.val (.bl b), G) ∧ (b = true ↔ Circ (ds.map tr0)) := by
  suffices key : we (F_has_circle [.tup ds, .int S] G) fun r G' => ∃ b : Bool, r = .val (.bl b) ∧ G' = G ∧ (b = true ↔ Circ (ds.map tr0)) by
    obtain ⟨r, G', e, b, rfl, rfl, h⟩ := key
    exact ⟨b, e, h⟩
  have hok := tr0_ok hk
  have hit := fun {i : Nat} (hi : i < ds.length) => item_at hk hi
  obtain ⟨cs, hcs⟩ : ∃ cs, ds.map tr0 = cs := ⟨_, rfl⟩
  have hcl : cs.length = ds.length := by rw [← hcs, List.length_map]
  have hit2 : ∀ {i : Nat} (hi : i < ds.length), ∃ xs, ds[i] = .tup xs ∧ atI xs 0 = some (.int (cs[i]'(by omega)).1) ∧ atI xs 1 = some (.int (cs[i]'(by omega)).2.1) ∧ OkC S (cs[i]'(by omega)) := fun {i} hi => by
    subst hcs
    exact hit hi
  rw [hcs] at hok ⊢
  clear hit
  refine we_fn rfl ?_
  unfold b_has_circle
  obtain ⟨Z, hZ⟩ : ∃ Z, G ++ [O.lst [.int 0]] = Z := ⟨_, rfl⟩
  have hZG : Z.length = G.length + 1 := by rw [← hZ]; simp
  have gZ : Z[G.length]? = some (.lst [.int 0]) := by rw [← hZ]; simp
  refine ws_cut (fun gs G' => gs = [some (.tup ds), some (.int S), some (.ref Z.length), none, none, none, none] ∧ G' = Z ++ [.lst (ml S fun _ => 0)]) ?_ ?_
  · rw [ws_sAsg]
    refine we_of (eOp_of (d := .ref G.length) (e := .int S) (G1 := Z) (G2 := Z) (by rw [← hZ]; rfl) (var_of rfl) (mul_at gZ (by omega) (by omega))) ?_
    rw [onR_val, asO_gNm]
    exact ⟨rfl, rfl, rfl⟩
  rintro gs0 G0 ⟨rfl, rfl⟩
  refine ws_cut (fun gs G' => ∃ o3 : Option D, gs = [some (.tup ds), some (.int S), some (.ref Z.length), o3, none, none, none] ∧ G' = Z ++ [.lst (ml S fun b => (wt cs [] b : Int))]) ?_ ?_
  · refine ws_sFor (items := ds) (gd := anyH) (G1 := Z ++ [.lst (ml S fun _ => 0)]) (wSeq_tup (var_of rfl)) (fun i gs G' => ∃ o3 : Option D, gs = [some (.tup ds), some (.int S), some (.ref Z.length), o3, none, none, none] ∧ G' = Z ++ [.lst (ml S fun b => (wt (cs.take i) [] b : Int))]) ⟨none, rfl, by simp [show ∀ b, wt [] [] b = 0 from fun _ => rfl]⟩ (fun _ _ _ _ _ => trivial) ?_ ?_
    · rintro i hi gs G' ⟨o3, rfl, rfl⟩
      obtain ⟨xs, hd, a0, a1, p1, p2, p3, p4, -⟩ := hit2 hi
      have hci : i < cs.length := by omega
      rw [hd, asO_gNm]
      refine ws_bSeq.mpr ?_
      refine ws_sAugS_lst (n := Z.length) (xs := ml S fun b => (wt (cs.take i) [] b : Int)) (i := cs[i].2.1) (a := (wt (cs.take i) [] cs[i].2.1 : Int)) (b := 1) (j := cs[i].2.1.toNat) (var_of rfl) (eOp_of (var_of rfl) rfl (we_eq (by simp [a1]))) rfl (by simp) ?_ (ml_get p3 p4) ?_
      · rw [ml_len]
        have := ixN_lt (n := S) (k := cs[i].2.1.toNat) (by omega)
        rw [Int.toNat_of_nonneg p3] at this
        exact this
      · rw [onFl_nx, ws_bNil, onTurn_nx]
        refine ⟨_, rfl, ?_⟩
        rw [List.set_append_right _ _ (Nat.le_refl _), Nat.sub_self]
        rw [ml_set (g := fun b => (wt (cs.take (i + 1)) [] b : Int)) p3 (by rw [wt_nil_step hci, if_pos rfl]; simp) (fun x hx => by rw [wt_nil_step hci, if_neg (fun e => hx e.symm)]; rfl)]
        rfl
    · rintro gs G' ⟨o3, rfl, rfl⟩
      refine ⟨rfl, o3, rfl, ?_⟩
      rw [← hcl, List.take_length]
  rintro gs0 G0 ⟨o3, rfl, rfl⟩
  obtain ⟨fr0, hfr0⟩ : ∃ fr0, (rngK 0 S).filter (fun b => decide (wt cs [] b = 0)) = fr0 := ⟨_, rfl⟩
  refine ws_cut (fun gs G' => gs = [some (.tup ds), some (.int S), some (.ref Z.length), o3, some (.ref (Z.length + 1)), none, none] ∧ G' = Z ++ [.lst (ml S fun b => (wt cs [] b : Int)), .lst (fr0.map .int)]) ?_ ?_
  · rw [ws_sAsg]
    refine we_lcI (lo := 0) (k := S) (G1 := Z ++ [.lst (ml S fun b => (wt cs [] b : Int))]) (wRng1_eq (j := (S : Int)) (fa_cons (var_of rfl) fa_nil) (by omega)) (by omega) (fun b => decide (wt cs [] b = 0)) D.int ?_ ?_
    · intro x x0 x1 acc
      have gm : (Z ++ [O.lst (ml S fun b => (wt cs [] b : Int))] ++ [.lst acc])[Z.length]? = some (.lst (ml S fun b => (wt cs [] b : Int))) := by simp
      have hx : dIx (.ref Z.length) (.int x) (Z ++ [O.lst (ml S fun b => (wt cs [] b : Int))] ++ [.lst acc]) = some (.val (.int (wt cs [] x)), Z ++ [O.lst (ml S fun b => (wt cs [] b : Int))] ++ [.lst acc]) := we_eq (by rw [we_ixR, gm, asO_some, ixO_lst, atI_nat x0, ml_get x0 (by omega)]; exact ⟨rfl, rfl⟩)
      rw [asO_gNm]
      refine ⟨rfl, ?_⟩
      refine we_of (r := .val (decide (wt cs [] x = 0))) (tb_of (eOp_of (d := .int (wt cs [] x)) (e := .int 0) (eOp_of (var_of rfl) (var_of rfl) hx) rfl (we_eq (by simp)))) ⟨rfl, rfl, fun _ => var_of rfl⟩
    · rw [onR_val, asO_gNm]
      refine ⟨rfl, ?_, ?_⟩
      · simp
      · rw [List.append_assoc, hfr0]
        rfl
  rintro gs0 G0 ⟨rfl, rfl⟩
  refine ws_cut (fun gs G' => gs = [some (.tup ds), some (.int S), some (.ref Z.length), o3, some (.ref (Z.length + 1)), none, some (.int 0)] ∧ G' = Z ++ [.lst (ml S fun b => (wt cs [] b : Int)), .lst (fr0.map .int)]) (by simp [we_eVar]) ?_
  rintro gs0 G0 ⟨rfl, rfl⟩
  have hsub : ∀ {l : List Int}, l.Nodup → (∀ z ∈ l, 0 ≤ z ∧ z < (S : Int)) → l.length ≤ S := fun {l} h1 h2 => by
    have := h1.length_le_of_subset (l₂ := rngI 0 S) fun b hb => mem_rngI.mpr (h2 b hb)
    rw [rngI_len] at this
    omega
  refine ws_cut (fun gs G' => ∃ (o3 o5 : Option D) (dn : List Int) (J : Hh), gs = [some (.tup ds), some (.int S), some (.ref Z.length), o3, some (.ref (Z.length + 1)), o5, some (.int dn.length)] ∧ G' = Z ++ J ∧ HcJ cs S dn []) ?_ ?_
  · refine ws_sWhile (fun μ gs H => ∃ (o3 o5 : Option D) (dn free : List Int), gs = [some (.tup ds), some (.int S), some (.ref Z.length), o3, some (.ref (Z.length + 1)), o5, some (.int dn.length)] ∧ H = Z ++ [.lst (ml S fun b => (wt cs dn b : Int)), .lst (free.map .int)] ∧ μ = S - dn.length ∧ HcJ cs S dn free) S ⟨o3, none, [], fr0, rfl, rfl, rfl, ⟨⟨List.nodup_nil, (fun _ h => nomatch h), (fun _ h => nomatch h), ?_, fun b hb => ?_, fun b b0 b1 b2 _ => ?_⟩, fun _ _ _ h => nomatch h⟩⟩ ?_
    · rw [← hfr0]
      refine List.Pairwise.filter _ ?_
      unfold rngK
      exact List.pairwise_map.mpr (List.nodup_range.imp fun {a b} hab e => hab (by omega))
    · rw [← hfr0] at hb
      obtain ⟨h1, h2⟩ := List.mem_filter.mp hb
      obtain ⟨q0, q1⟩ := mem_rngK.mp h1
      exact ⟨⟨q0, by omega⟩, by simp, of_decide_eq_true h2⟩
    · rw [← hfr0]
      exact List.mem_filter.mpr ⟨mem_rngK.mpr ⟨b0, by omega⟩, decide_eq_true b2⟩
    rintro μ gs H ⟨o3, o5, dn, free, rfl, rfl, hμ, hJ⟩
    have gF := at1' (G := Z) (a := O.lst (ml S fun b => (wt cs dn b : Int))) (b := .lst (free.map .int))
    by_cases hf : free = []
    · subst hf
      refine we_of (r := .val false) (G := Z ++ [.lst (ml S fun b => (wt cs dn b : Int)), .lst (([] : List Int).map .int)]) (we_eq (by simp only [List.map_nil] at gF ⊢; simp [we_eVar, gF])) ?_
      rw [onR_val, if_neg Bool.false_ne_true]
      exact ⟨rfl, o3, o5, dn, _, rfl, rfl, hJ⟩
    have hfl : 0 < free.length := List.length_pos_iff.mpr hf
    refine we_of (r := .val true) (G := Z ++ [.lst (ml S fun b => (wt cs dn b : Int)), .lst (free.map .int)]) (we_eq (by simp [we_eVar, gF, hfl])) ?_
    rw [onR_val, if_pos rfl]
    obtain ⟨fs, x, rfl⟩ : ∃ fs x, free = fs ++ [x] := ⟨free.dropLast, free.getLast hf, (List.dropLast_concat_getLast hf).symm⟩
    have I := hJ.I
    obtain ⟨⟨x0, x1⟩, xd, xz⟩ := I.fr x (by simp)
    have fnd := List.nodup_append.mp I.fn
    have hxf : x ∉ fs := fun h => fnd.2.2 x h x (by simp) rfl
    have hpop := popI gF
    rw [set1'] at hpop
    have i1 : isLst (Z ++ [O.lst (ml S fun b => (wt cs dn b : Int)), .lst ((fs ++ [x]).map .int)]) (.ref (Z.length + 1)) = true := by unfold isLst; dsimp only; rw [gF]
    refine ws_cut (fun gs G' => gs = [some (.tup ds), some (.int S), some (.ref Z.length), o3, some (.ref (Z.length + 1)), some (.int x), some (.int dn.length)] ∧ G' = Z ++ [.lst (ml S fun b => (wt cs dn b : Int)), .lst (fs.map .int)]) (by simp [we_eVar, i1, hpop, -List.map_append]) ?_
    rintro gs0 G2 ⟨rfl, rfl⟩
    refine ws_cut (fun gs G' => gs = [some (.tup ds), some (.int S), some (.ref Z.length), o3, some (.ref (Z.length + 1)), some (.int x), some (.int (dn.length + 1))] ∧ G' = Z ++ [.lst (ml S fun b => (wt cs dn b : Int)), .lst (fs.map .int)]) (by simp [we_eVar]) ?_
    rintro gs0 G2 ⟨rfl, rfl⟩
    rw [ws_bSeq]
    refine ws_sFor (items := ds) (gd := anyH) (G1 := Z ++ [.lst (ml S fun b => (wt cs dn b : Int)), .lst (fs.map .int)]) (wSeq_tup (var_of rfl)) (fun i gs H => ∃ (o3 : Option D) (fr : List Int), gs = [some (.tup ds), some (.int S), some (.ref Z.length), o3, some (.ref (Z.length + 1)), some (.int x), some (.int (dn.length + 1))] ∧ H = Z ++ [.lst (ml S fun b => (wtP cs dn x i b : Int)), .lst (fr.map .int)] ∧ fr.Nodup ∧ (∀ b ∈ fr, (0 ≤ b ∧ b < (S : Int)) ∧ b ∉ x :: dn ∧ wtP cs dn x i b = 0) ∧ ∀ b : Int, 0 ≤ b → b < S → wtP cs dn x i b = 0 → b ∉ x :: dn → b ∈ fr) ⟨o3, fs, rfl, ?_, fnd.1, fun b hb => ?_, fun b b0 b1 b2 b3 => ?_⟩ (fun _ _ _ _ _ => trivial) ?_ ?_
    · congr 3
      congr 1
      funext b
      rw [wtP_zero]
    · obtain ⟨p1, p2, p3⟩ := I.fr b (List.mem_append_left _ hb)
      refine ⟨p1, fun h => ?_, by rw [wtP_zero]; exact p3⟩
      rcases List.mem_cons.mp h with rfl | h
      · exact hxf hb
      · exact p2 h
    · rw [wtP_zero] at b2
      have := I.all b b0 b1 b2 fun h => b3 (List.mem_cons_of_mem _ h)
      rcases List.mem_append.mp this with h | h
      · exact h
      · exact absurd (List.mem_singleton.mp h) fun e => b3 (by rw [e]; exact List.mem_cons_self ..)
    · rintro i hi gs H ⟨o3, fr, rfl, rfl, h3, h4, h5⟩
      obtain ⟨xs, hd, c0, c1, a1, a2, a3, a4, a5, -⟩ := hit2 hi
      have hci : i < cs.length := by omega
      rw [hd, asO_gNm]
      have st := fun b => wtP_step hci xd b
      have u0 : ∀ H : Hh, eOp dIx (eVar 3) (eC (.int 0)) [some (.tup ds), some (.int S), some (.ref Z.length), some (.tup xs), some (.ref (Z.length + 1)), some (.int x), some (.int (dn.length + 1))] H = some (.val (.int cs[i].1), H) := fun H => eOp_of (var_of rfl) rfl (we_eq (by simp [c0]))
      have u1 : ∀ H : Hh, eOp dIx (eVar 3) (eC (.int 1)) [some (.tup ds), some (.int S), some (.ref Z.length), some (.tup xs), some (.ref (Z.length + 1)), some (.int x), some (.int (dn.length + 1))] H = some (.val (.int cs[i].2.1), H) := fun H => eOp_of (var_of rfl) rfl (we_eq (by simp [c1]))
      have t0 : ∀ H : Hh, tB (eOp (dEqv false) (eOp dIx (eVar 3) (eC (.int 0))) (eVar 5)) [some (.tup ds), some (.int S), some (.ref Z.length), some (.tup xs), some (.ref (Z.length + 1)), some (.int x), some (.int (dn.length + 1))] H = some (.val (decide (cs[i].1 = x)), H) := fun H => tb_of (eOp_of (u0 H) (var_of rfl) (we_eq (by simp)))
      by_cases hcx : cs[i].1 = x
      · have t1 := t0 (Z ++ [.lst (ml S fun b => (wtP cs dn x i b : Int)), .lst (fr.map .int)])
        rw [decide_eq_true hcx] at t1
        refine ws_ifY t1 ?_
        have hw : wtP cs dn x i cs[i].2.1 = wtP cs dn x (i + 1) cs[i].2.1 + 1 := by rw [st, if_pos ⟨rfl, hcx⟩]
        have hcb : cs[i].2.1 ∉ x :: dn := fun h => by
          rcases List.mem_cons.mp h with h | h
          · exact a5 (hcx.trans h.symm)
          · have := I.dz _ h
            have := wtP_le (cs := cs) (dn := dn) (x := x) (i := i) (b := cs[i].2.1)
            omega
        have hnf : cs[i].2.1 ∉ fr := fun h => by
          have := (h4 _ h).2.2
          omega
        have hne : ∀ b, b ≠ cs[i].2.1 → wtP cs dn x (i + 1) b = wtP cs dn x i b := fun b hb => by
          rw [st b, if_neg fun h => hb h.1.symm]
          rfl
        refine ws_cut (fun gs H => gs = [some (.tup ds), some (.int S), some (.ref Z.length), some (.tup xs), some (.ref (Z.length + 1)), some (.int x), some (.int (dn.length + 1))] ∧ H = Z ++ [.lst (ml S fun b => (wtP cs dn x (i + 1) b : Int)), .lst (fr.map .int)]) ?_ ?_
        · refine ws_sAugS_lst (n := Z.length) (xs := ml S fun b => (wtP cs dn x i b : Int)) (i := cs[i].2.1) (a := (wtP cs dn x i cs[i].2.1 : Int)) (b := 1) (j := cs[i].2.1.toNat) (var_of rfl) (u1 _) rfl at0' ?_ (ml_get a3 a4) ?_
          · rw [ml_len]
            have := ixN_lt (n := S) (k := cs[i].2.1.toNat) (by omega)
            rw [Int.toNat_of_nonneg a3] at this
            exact this
          · refine ⟨rfl, rfl, ?_⟩
            rw [set0', ml_set (g := fun b => (wtP cs dn x (i + 1) b : Int)) a3 (by rw [hw]; omega) (fun b hb => by rw [hne b hb])]
        rintro gs0 H2 ⟨rfl, rfl⟩
        have gm := at0' (G := Z) (a := O.lst (ml S fun b => (wtP cs dn x (i + 1) b : Int))) (b := .lst (fr.map .int))
        have gf := at1' (G := Z) (a := O.lst (ml S fun b => (wtP cs dn x (i + 1) b : Int))) (b := .lst (fr.map .int))
        have hx : dIx (.ref Z.length) (.int cs[i].2.1) (Z ++ [.lst (ml S fun b => (wtP cs dn x (i + 1) b : Int)), .lst (fr.map .int)]) = some (.val (.int (wtP cs dn x (i + 1) cs[i].2.1)), Z ++ [.lst (ml S fun b => (wtP cs dn x (i + 1) b : Int)), .lst (fr.map .int)]) := we_eq (by rw [we_ixR, gm, asO_some, ixO_lst, atI_nat a3, ml_get a3 a4]; exact ⟨rfl, rfl⟩)
        have t2 : tB (eOp (dEqv false) (eOp dIx (eVar 2) (eOp dIx (eVar 3) (eC (.int 1)))) (eC (.int 0))) [some (.tup ds), some (.int S), some (.ref Z.length), some (.tup xs), some (.ref (Z.length + 1)), some (.int x), some (.int (dn.length + 1))] (Z ++ [.lst (ml S fun b => (wtP cs dn x (i + 1) b : Int)), .lst (fr.map .int)]) = some (.val (decide (wtP cs dn x (i + 1) cs[i].2.1 = 0)), Z ++ [.lst (ml S fun b => (wtP cs dn x (i + 1) b : Int)), .lst (fr.map .int)]) := tb_of (eOp_of (eOp_of (var_of rfl) (u1 _) hx) rfl (we_eq (by simp)))
        by_cases hz : wtP cs dn x (i + 1) cs[i].2.1 = 0
        · rw [decide_eq_true hz] at t2
          refine ws_ifY t2 ?_
          have hfl2 : fr.length ≤ S := hsub h3 fun b hb => (h4 b hb).1
          refine app_stmt (n := Z.length + 1) (d := .int cs[i].2.1) (xs := fr.map .int) rfl gf (u1 _) gf (by rw [List.length_map]; omega) ?_
          rw [set1']
          rw [ws_bNil, onFl_nx, ws_bNil, onFl_nx, ws_bNil, onTurn_nx]
          refine ⟨_, fr ++ [cs[i].2.1], rfl, by rw [List.map_append]; rfl, List.nodup_append.mpr ⟨h3, by simp, fun a ha b hb e => ?_⟩, fun b hb => ?_, fun b b0 b1 b2 b3 => ?_⟩
          · rw [List.mem_singleton.mp hb] at e
            exact hnf (e ▸ ha)
          · rcases List.mem_append.mp hb with hb | hb
            · obtain ⟨p1, p2, p3⟩ := h4 b hb
              exact ⟨p1, p2, by rw [hne b fun e => hnf (e ▸ hb)]; exact p3⟩
            · rw [List.mem_singleton.mp hb]
              exact ⟨⟨a3, a4⟩, hcb, hz⟩
          · by_cases e : b = cs[i].2.1
            · exact List.mem_append_right _ (by rw [e]; simp)
            · exact List.mem_append_left _ (h5 b b0 b1 (by rw [← hne b e]; exact b2) b3)
        · rw [decide_eq_false hz] at t2
          refine ws_ifN t2 ?_
          rw [ws_bNil, onFl_nx, ws_bNil, onTurn_nx]
          refine ⟨_, fr, rfl, rfl, h3, fun b hb => ?_, fun b b0 b1 b2 b3 => ?_⟩
          · obtain ⟨p1, p2, p3⟩ := h4 b hb
            exact ⟨p1, p2, by rw [hne b fun e => hnf (e ▸ hb)]; exact p3⟩
          · have e : b ≠ cs[i].2.1 := fun e => hz (e ▸ b2)
            exact h5 b b0 b1 (by rw [← hne b e]; exact b2) b3
      · have t1 := t0 (Z ++ [.lst (ml S fun b => (wtP cs dn x i b : Int)), .lst (fr.map .int)])
        rw [decide_eq_false hcx] at t1
        refine ws_ifN t1 ?_
        have hw' : wtP cs dn x i = wtP cs dn x (i + 1) := funext fun b => by
          rw [st b, if_neg fun h => hcx h.2]
          rfl
        rw [ws_bNil, onTurn_nx, ← hw']
        exact ⟨_, fr, rfl, rfl, h3, h4, h5⟩
    · rintro gs H ⟨o3, fr, rfl, rfl, h3, h4, h5⟩
      rw [onFl_nx, ws_bNil, onTurn_nx]
      have hall : wtP cs dn x ds.length = wt cs (x :: dn) := funext fun b => by rw [← hcl]; exact wtP_all
      rw [hall] at h4 h5 ⊢
      have nd2 : (x :: dn).Nodup := List.nodup_cons.mpr ⟨xd, I.nd⟩
      have rg2 : ∀ b ∈ x :: dn, 0 ≤ b ∧ b < (S : Int) := fun b hb => by
        rcases List.mem_cons.mp hb with rfl | hb
        · exact ⟨x0, x1⟩
        · exact I.rg b hb
      have hdl := hsub nd2 rg2
      have hdl' : dn.length + 1 ≤ S := by simpa using hdl
      refine ⟨S - (dn.length + 1), by omega, o3, some (.int x), x :: dn, fr, by simp, rfl, by simp, ⟨nd2, rg2, fun b hb => ?_, h3, h4, h5⟩, fun T hT y hy hyT => ?_⟩
      · have hle : wt cs (x :: dn) b ≤ wt cs dn b := wt_sub fun y hy => List.mem_cons_of_mem _ hy
        rcases List.mem_cons.mp hb with rfl | hb
        · omega
        · have := I.dz b hb
          omega
      · rcases List.mem_cons.mp hy with rfl | hy
        · obtain ⟨c, hcm, h1, h2⟩ := hT _ hyT
          exact hJ.cl T hT _ (wt_zero.mp xz c hcm h2) h1
        · exact hJ.cl T hT y hy hyT
  rintro gs0 G0 ⟨o3', o5, dn, J, rfl, rfl, hJ⟩
  refine ws_retE (we_of (r := .val (.bl (decide ((dn.length : Int) < S)))) (G := Z ++ J) (we_eq (by simp [we_eVar])) ?_)
  rw [onR_val]
  show we (slim G _) _
  rw [slim_old (by simp) rfl (by rw [← hZ, List.append_assoc]; exact Old.app), ← hZ, List.append_assoc, List.take_left' rfl]
  refine (we_some _ _).mpr ⟨_, rfl, rfl, ?_⟩
  rw [decide_eq_true_iff]
  exact Iff.trans (by omega) (hJ.fin hok)
end
end FI.K00
set_option maxRecDepth 100000
set_option maxHeartbeats 4000000
namespace FI.K00
open PySem L2 PySem.Spec PyProof.Rows FI
theorem in_I {G : Hh} {r : Nat} {l : List Int} {x : Int} (h : G[r]? = some (.lst (l.map .int))) : dIn false (.int x) (.ref r) G = some (.val (.bl (decide (x ∈ l))), G) := by
  rw [in_rp (Rp.int x) (.lst h (.map (g := fun i => PyData.int i) fun q _ => Rp.int q))]
  have e0 : ∀ i j : Int, PyData.eqv (.int i) (.int j) = decide (i = j) := fun i j => by
    unfold PyData.eqv
    by_cases h : i = j <;> simp [h]
  have e : ∀ l : List Int, (l.map fun i => PyData.int i).any (fun z => PyData.eqv z (.int x)) = decide (x ∈ l) := fun l => by
    induction l with
    | nil => rfl
    | cons q t ih =>
      rw [List.map_cons, List.any_cons, ih, e0]
      by_cases h1 : q = x
      · simp [h1]
      · simp [h1, Ne.symm h1]
  rw [e, Bool.false_xor]
theorem eqL {G : Hh} {r s : Nat} {l m : List Int} (h1 : G[r]? = some (.lst (l.map .int))) (h2 : G[s]? = some (.lst (m.map .int))) : dEqv false (.ref r) (.ref s) G = some (.val (.bl (decide (l = m))), G) := by
  have r1 := Rp.lst (k := 6) h1 (RpAll.mapQ (xs := l) QE.int (by omega) (List.all_eq_true.mpr fun _ _ => rfl))
  have r2 := Rp.lst (k := 6) h2 (RpAll.mapQ (xs := m) QE.int (by omega) (List.all_eq_true.mpr fun _ _ => rfl))
  refine Eq.trans (eqv_rp (neg := false) r1 r2) ?_
  have e1 := eqvAll_map QE.int l m
  simp only [PyData.eqv] at e1 ⊢
  rw [e1]
  simp
theorem fm_filter {α β : Type} {q : α → Bool} {g : α → β} : ∀ l : List α, (l.filterMap fun d => if q d = true then some (g d) else none) = (l.filter q).map g
  | [] => rfl
  | d :: l => by
    rw [List.filterMap_cons, List.filter_cons]
    by_cases h : q d = true
    · rw [if_pos h, if_pos h, List.map_cons, fm_filter l]
    · rw [if_neg h, if_neg h, fm_filter l]
section
variable {ds : List D} {S : Nat} {r : Nat} {G : Hh}
theorem law_circle_ok (hS : S ≤ 1000) (hk : ∀ d ∈ ds, okCh S d = true) (hl : ds.length ≤ 1000) (hr : G[r]? = some (.lst ds)) : ∃ b : Bool, F__law_circle [.int S, .ref r] G = some (.val (.bl b), G) ∧ (b = true ↔ Circ (ds.map tr0)) := by
  suffices key : we (F__law_circle [.int S, .ref r] G) fun r G' => ∃ b : Bool, r = .val (.bl b) ∧ G' = G ∧ (b = true ↔ Circ (ds.map tr0)) by
    obtain ⟨r, G', e, b, rfl, rfl, h⟩ := key
    exact ⟨b, e, h⟩
  have hok := tr0_ok hk
  refine we_fn rfl ?_
  unfold b__law_circle
  refine ws_cut (fun gs G' => gs = [some (.int S), some (.ref r), some (.ref G.length), none, none, none, none, none] ∧ G' = G ++ [.lst ((rngK 0 S).map .int)]) ?_ ?_
  · rw [ws_sAsg]
    refine we_lcI (lo := 0) (k := S) (G1 := G) (wRng1_eq (j := (S : Int)) (fa_cons (var_of rfl) fa_nil) (by omega)) (by omega) (fun _ => true) D.int ?_ ?_
    · intro x _ _ acc
      rw [asO_gNm]
      refine ⟨rfl, ?_⟩
      rw [we_tTrue]
      exact ⟨rfl, rfl, fun _ => var_of rfl⟩
    · rw [List.filter_eq_self.mpr (fun _ _ => rfl), onR_val, asO_gNm]
      exact ⟨rfl, rfl, rfl⟩
  rintro gs0 G0 ⟨rfl, rfl⟩
  have lr := (List.getElem?_eq_some_iff.mp hr).1
  refine ws_cut (fun gs H => ∃ (r2 : Nat) (left : List Int) (o4 o5 o7 : Option D), gs = [some (.int S), some (.ref r), some (.ref r2), none, o4, o5, none, o7] ∧ H[r2]? = some (.lst (left.map .int)) ∧ Keep [] G H ∧ (∀ T, Closed (ds.map tr0) T → ∀ x ∈ T, x ∈ left) ∧ (left = [] ∨ Closed (ds.map tr0) left)) ?_ ?_
  · refine ws_sFor (wRng1_eq (j := (S : Int)) (G1 := G ++ [.lst ((rngK 0 S).map .int)]) (fa_cons (var_of rfl) fa_nil) (by omega)) (fun i gs H => ∃ (r2 : Nat) (left : List Int) (o4 o5 o7 : Option D), gs = [some (.int S), some (.ref r), some (.ref r2), none, o4, o5, none, o7] ∧ H[r2]? = some (.lst (left.map .int)) ∧ Keep [] G H ∧ (∀ T, Closed (ds.map tr0) T → ∀ x ∈ T, x ∈ left) ∧ left.length + i ≤ S) ⟨G.length, rngK 0 S, none, none, none, rfl, by simp, .app, fun T hT x hx => ?_, by rw [rngK_len]; omega⟩ (fun _ _ _ _ _ => trivial) ?_ ?_
    · obtain ⟨c, hcm, -, rfl⟩ := hT x hx
      have := hok c hcm
      exact mem_rngK.mpr ⟨this.2.2.1, by have := this.2.2.2.1; omega⟩
    · rintro i hi gs H ⟨r2, left, o4, o5, o7, rfl, q1, q2, q3, q4⟩
      rw [rngD_get hi]
      simp only [Int.zero_add]
      rw [asO_gNm]
      rw [rngD_length] at hi
      have hrH := q2.get hr (List.not_mem_nil)
      have lrH := (List.getElem?_eq_some_iff.mp hrH).1
      have l2 := (List.getElem?_eq_some_iff.mp q1).1
      obtain ⟨E, hE⟩ : ∃ E, (ds.filter fun d => decide ((pr d).1 ∈ left)).map (fun d => (pr d).2) = E := ⟨_, rfl⟩
      have mE : ∀ x, x ∈ E ↔ ∃ c ∈ ds.map tr0, c.1 ∈ left ∧ c.2.1 = x := fun x => by
        rw [← hE]
        constructor
        · intro h
          obtain ⟨d, hd, rfl⟩ := List.mem_map.mp h
          obtain ⟨h1, h2⟩ := List.mem_filter.mp hd
          exact ⟨tr0 d, List.mem_map.mpr ⟨d, h1, rfl⟩, of_decide_eq_true h2, rfl⟩
        · rintro ⟨c, hc, h1, rfl⟩
          obtain ⟨d, hd, rfl⟩ := List.mem_map.mp hc
          exact List.mem_map.mpr ⟨d, List.mem_filter.mpr ⟨hd, decide_eq_true h1⟩, rfl⟩
      obtain ⟨H1, hH1⟩ : ∃ H1, H ++ [O.lst (E.map .int)] = H1 := ⟨_, rfl⟩
      refine ws_cut (fun gs G' => gs = [some (.int S), some (.ref r), some (.ref r2), none, some (.int i), some (.ref H.length), none, o7] ∧ G' = H1) ?_ ?_
      · rw [ws_sAsg]
        refine we_eLcP (items := ds) (gd := stays r ds) (G1 := H) (wSeq_ref (n := r) (var_of rfl) hrH) (fun d => if decide ((pr d).1 ∈ left) = true then some (.int (pr d).2) else none) (by omega) (fun acc => by unfold stays; rw [List.getElem?_append_left lrH]; exact hrH) ?_ ?_
        · intro d hd acc
          obtain ⟨a, b, xs, rfl, a0, a1, hp, -⟩ := okCh_ints (hk d hd)
          rw [hp]
          dsimp only
          rw [asO_gNm]
          refine ⟨rfl, ?_⟩
          have g2 : (H ++ [O.lst acc])[r2]? = some (.lst (left.map .int)) := by rw [List.getElem?_append_left l2]; exact q1
          refine we_of (r := .val (decide (a ∈ left))) (G := H ++ [.lst acc]) (tb_of (eOp_of (d := .int a) (e := .ref r2) (eOp_of (var_of rfl) rfl (we_eq (by simp [a0]))) (var_of rfl) (in_I g2))) ?_
          rw [onR_val]
          refine ⟨rfl, ?_⟩
          by_cases ha : a ∈ left
          · rw [decide_eq_true ha, if_pos rfl]
            refine we_of (r := .val (.int b)) (G := H ++ [.lst acc]) (eOp_of (var_of rfl) rfl (we_eq (by simp [a1]))) ?_
            rw [onR_val]
            exact ⟨by rw [if_pos rfl], rfl⟩
          · rw [decide_eq_false ha, if_neg Bool.false_ne_true]
            rw [if_neg Bool.false_ne_true]
        · have e := fm_filter (q := fun d => decide ((pr d).1 ∈ left)) (g := fun d => D.int (pr d).2) ds
          rw [e, onR_val, asO_gNm]
          refine ⟨rfl, rfl, ?_⟩
          rw [← hH1, ← hE, List.map_map]
          rfl
      rintro gs0 H1' ⟨rfl, rfl⟩
      have k1 : Keep [] H H1' := by rw [← hH1]; exact .app
      have gE : H1'[H.length]? = some (.lst (E.map .int)) := by rw [← hH1]; simp
      have g21 := k1.get q1 (List.not_mem_nil)
      have l21 := (List.getElem?_eq_some_iff.mp g21).1
      have lE := (List.getElem?_eq_some_iff.mp gE).1
      obtain ⟨kept, hkept⟩ : ∃ kept, left.filter (fun x => decide (x ∈ E)) = kept := ⟨_, rfl⟩
      obtain ⟨H2, hH2⟩ : ∃ H2, H1' ++ [O.lst (kept.map .int)] = H2 := ⟨_, rfl⟩
      refine ws_cut (fun gs G' => gs = [some (.int S), some (.ref r), some (.ref r2), none, some (.int i), some (.ref H.length), none, some (.ref H1'.length)] ∧ G' = H2) ?_ ?_
      · rw [ws_sAsg]
        refine we_eLcP (items := left.map .int) (gd := stays r2 (left.map .int)) (G1 := H1') (wSeq_ref (n := r2) (var_of rfl) g21) (onF (fun x => decide (x ∈ E)) D.int) (by rw [List.length_map]; omega) (fun acc => by unfold stays; rw [List.getElem?_append_left l21]; exact g21) ?_ ?_
        · intro d hd acc
          obtain ⟨x, -, rfl⟩ := List.mem_map.mp hd
          rw [asO_gNm]
          refine ⟨rfl, ?_⟩
          have g5 : (H1' ++ [O.lst acc])[H.length]? = some (.lst (E.map .int)) := by rw [List.getElem?_append_left lE]; exact gE
          refine we_of (r := .val (decide (x ∈ E))) (G := H1' ++ [.lst acc]) (tb_of (eOp_of (var_of rfl) (var_of rfl) (in_I g5))) ?_
          rw [onR_val]
          refine ⟨rfl, ?_⟩
          by_cases hx : x ∈ E
          · rw [decide_eq_true hx, if_pos rfl]
            refine we_of (r := .val (.int x)) (G := H1' ++ [.lst acc]) (var_of rfl) ?_
            rw [onR_val]
            exact ⟨if_pos (decide_eq_true hx), rfl⟩
          · rw [decide_eq_false hx, if_neg Bool.false_ne_true]
            exact if_neg (by simp [hx])
        · rw [filterMap_onF, onR_val, asO_gNm]
          exact ⟨rfl, rfl, by rw [← hH2, ← hkept]⟩
      rintro gs0 H2' ⟨rfl, rfl⟩
      have k2 : Keep [] H1' H2' := by rw [← hH2]; exact .app
      have gK : H2'[H1'.length]? = some (.lst (kept.map .int)) := by rw [← hH2]; simp
      have g22 := k2.get g21 (List.not_mem_nil)
      have et : tB (eOp (dEqv false) (eVar 7) (eVar 2)) [some (.int S), some (.ref r), some (.ref r2), none, some (.int i), some (.ref H.length), none, some (.ref H1'.length)] H2' = some (.val (decide (kept = left)), H2') := tb_of (eOp_of (var_of rfl) (var_of rfl) (eqL gK g22))
      by_cases hkl : kept = left
      · rw [decide_eq_true hkl] at et
        refine ws_ifY et ?_
        have hb : ws (bSeq sBreak bNil [some (.int S), some (.ref r), some (.ref r2), none, some (.int i), some (.ref H.length), none, some (.ref H1'.length)] H2') fun fl gs G' => fl = .bk ∧ gs = [some (.int S), some (.ref r), some (.ref r2), none, some (.int i), some (.ref H.length), none, some (.ref H1'.length)] ∧ G' = H2' := by simp
        refine ws_mono hb ?_
        rintro _ _ _ ⟨rfl, rfl, rfl⟩
        refine ⟨rfl, r2, left, _, _, _, rfl, g22, (q2.trans k1).trans k2, q3, .inr fun x hx => ?_⟩
        rw [← hkl, ← hkept] at hx
        obtain ⟨-, h2⟩ := List.mem_filter.mp hx
        exact (mE x).mp (of_decide_eq_true h2)
      · rw [decide_eq_false hkl] at et
        refine ws_ifN et ?_
        refine ws_mono (R' := fun fl gs G' => fl = .nx ∧ gs = [some (.int S), some (.ref r), some (.ref H1'.length), none, some (.int i), some (.ref H.length), none, some (.ref H1'.length)] ∧ G' = H2') (by simp [we_eVar]) ?_
        rintro _ _ _ ⟨rfl, rfl, rfl⟩
        rw [onTurn_nx]
        refine ⟨H1'.length, kept, _, _, _, rfl, gK, (q2.trans k1).trans k2, fun T hT x hx => ?_, ?_⟩
        · rw [← hkept]
          refine List.mem_filter.mpr ⟨q3 T hT x hx, decide_eq_true ((mE x).mpr ?_)⟩
          obtain ⟨c, hcm, h1, h2⟩ := hT x hx
          exact ⟨c, hcm, q3 T hT _ h1, h2⟩
        · have hsb : kept.Sublist left := by rw [← hkept]; exact List.filter_sublist
          have hlen := hsb.length_le
          have : kept.length ≠ left.length := fun e => hkl (hsb.eq_of_length e)
          omega
    · rintro gs H ⟨r2, left, o4, o5, o7, rfl, q1, q2, q3, q4⟩
      rw [rngD_length] at q4
      exact ⟨rfl, r2, left, o4, o5, o7, rfl, q1, q2, q3, .inl (List.length_eq_zero_iff.mp (by omega))⟩
  rintro gs0 H ⟨r2, left, o4, o5, o7, rfl, q1, q2, q3, q4⟩
  refine ws_retE (we_of (r := .val (.bl (decide (0 < left.length)))) (G := H) (we_eq (by simp [we_eVar, q1])) ?_)
  rw [onR_val]
  refine slim_keep0 q2 (fun _ z => nomatch z) rfl ⟨_, rfl, rfl, ?_⟩
  rw [decide_eq_true_iff]
  constructor
  · intro h
    rcases q4 with q4 | q4
    · rw [q4] at h
      exact absurd h (Nat.lt_irrefl _)
    · exact ⟨left, List.length_pos_iff.mp h, q4⟩
  · rintro ⟨T, hT, hcl⟩
    obtain ⟨x, hx⟩ := List.exists_mem_of_ne_nil T hT
    exact List.length_pos_of_mem (q3 T hcl x hx)
end
end FI.K00
set_option maxRecDepth 100000
set_option maxHeartbeats 4000000
namespace FI.K00
open PySem L2 PySem.Spec PyProof.Rows FI
open Classical in
noncomputable def circB (ds : List D) : Bool := decide (Circ (ds.map tr0))
noncomputable def faultK (s : D) (ds : List D) (ex : D) : Option (D × D) :=
  if numO 1 40 s = false then some (.str "stages", .non) else
  if 120 < ds.length then some (.str "limit", .non) else
  match firstW (iv s) ds with
  | some i => some (.str (wrd (iv s) ds i), .int i)
  | none => if goodC ex = false then some (.str "capacity", .non) else if circB ds = true then some (.str "circle", .non) else none
def dueD : Option (D × D) → D
  | none => .non
  | some p => .tup [p.1, p.2]
open Classical in
theorem circB_of {ds : List D} {b : Bool} (h : b = true ↔ Circ (ds.map tr0)) : circB ds = b := by
  unfold circB
  cases b with
  | true => exact decide_eq_true (h.mp rfl)
  | false => exact decide_eq_false fun z => nomatch h.mpr z
theorem faultK_plain {s ex : D} {ds : List D} {p : D × D} (h : faultK s ds ex = some p) : Plain p.1 ∧ Plain p.2 := by
  obtain ⟨n1, n2, n3, n4, n5, n6, n7⟩ := words_lay
  unfold faultK at h
  split at h
  · cases h; exact ⟨n5, trivial⟩
  split at h
  · cases h; exact ⟨n6, trivial⟩
  split at h
  · cases h; exact ⟨wrd1_lay, trivial⟩
  split at h
  · cases h; exact ⟨n2, trivial⟩
  split at h
  · cases h; exact ⟨n7, trivial⟩
  · exact nomatch h
theorem inX_bw {p : D × D} (h : Plain p.1 ∧ Plain p.2) {k : Nat} : (inX p.1 p.2).bw k = true := by
  obtain ⟨a, b⟩ := p
  obtain ⟨h1, h2⟩ := h
  dsimp only at h1 h2
  cases a <;> cases b <;> first | rfl | exact h1.elim | exact h2.elim
theorem all_ok {s : Int} {ds : List D} (h : firstW s ds = none) : ∀ d ∈ ds, okCh s d = true ∧ capOk d = true := fun d hd => by
  obtain ⟨i, hi, rfl⟩ := List.mem_iff_getElem.mp hd
  have := firstW_none h i hi
  unfold wrd at this
  rw [getD_at hi] at this
  have := wrd1_nil.mp this
  exact ⟨this.1, this.2.1⟩
section
variable {ds : List D} {s ex : D} {r : Nat} {G : Hh}
theorem neq_str {x y : Str} (h1 : PyData.canLay0 (.str x) = true) (h2 : PyData.canLay0 (.str y) = true) : dEqv true (.str x) (.str y) G = some (.val (.bl (!decide (x = y))), G) := by
  rw [eqv_rp (neg := true) (Rp.str h1) (Rp.str h2), eqv_str]
  simp
theorem law_fault_ok (hr : G[r]? = some (.lst ds)) (hs : CapD s) (he : CapD ex) (hg : ∀ d ∈ ds, GivD G d) (hl : ds.length ≤ 1000) : F__law_fault [s, .ref r, ex] G = some (.val (dueD (faultK s ds ex)), G) := by
  have hns := law_number_ok hs 1 40 G
  refine we_eq (we_fn rfl ?_)
  unfold b__law_fault
  have fin : ∀ {d : D} {fl : Fl} {gs : Sg} {H : Hh}, fl = .rt d → Keep [] G H → d.bw G.length = true → (∀ m, d ≠ .ref m) → (match fl with
      | .nx => we (slim G (some (Rs.val D.non, H))) fun r' G' => r' = Rs.val d ∧ G' = G
      | .rt d' => we (slim G (some (Rs.val d', H))) fun r' G' => r' = Rs.val d ∧ G' = G
      | .ex x => we (slim G (some (Rs.exc x, H))) fun r' G' => r' = Rs.val d ∧ G' = G
      | x => False) := fun {d fl gs H} h k hb hm => by
    subst h
    show we (slim G (some (.val d, H))) _
    exact slim_keep0 k hm hb ⟨rfl, rfl⟩
  unfold faultK
  cases e1 : numO 1 40 s with
  | false =>
    rw [e1] at hns
    refine ws_ifY (G1 := G) (tn_of (b := false) (tb_of (call_of (fa_cons (var_of rfl) (fa_cons rfl (fa_cons rfl fa_nil))) hns))) ?_
    refine ws_retE (we_of (r := .val (.tup [.str "stages", .non])) (G := G) (eArgs_of (fa_cons rfl (fa_cons rfl fa_nil)) rfl) ?_)
    rw [onR_val, onFl_rt]
    exact fin rfl .refl rfl (fun _ z => nomatch z) (gs := [])
  | true =>
  rw [e1] at hns
  refine ws_ifN (G1 := G) (tn_of (b := true) (tb_of (call_of (fa_cons (var_of rfl) (fa_cons rfl (fa_cons rfl fa_nil))) hns))) ?_
  rw [if_neg (show ¬ (true = false) from fun z => nomatch z)]
  obtain ⟨S, rfl, s1, s2⟩ := numO_int e1
  obtain ⟨S, rfl⟩ : ∃ n : Nat, S = n := ⟨S.toNat, by omega⟩
  have hlen : eArgs (d1 bLen) (aCons (eVar 1) aNil) [some (.int S), some (.ref r), some ex, none, none] G = some (.val (.int ds.length), G) := eArgs_of (ds := [.ref r]) (fa_cons (var_of rfl) fa_nil) (we_eq (by simp [hr]))
  by_cases h120 : 120 < ds.length
  · refine ws_ifY (G1 := G) (tb_of (b := true) (eOp_of hlen rfl (we_eq (by simp; omega)))) ?_
    rw [if_pos h120]
    refine ws_retE (we_of (r := .val (.tup [.str "limit", .non])) (G := G) (eArgs_of (fa_cons rfl (fa_cons rfl fa_nil)) rfl) ?_)
    rw [onR_val, onFl_rt]
    exact fin rfl .refl rfl (fun _ z => nomatch z) (gs := [])
  refine ws_ifN (G1 := G) (tb_of (b := false) (eOp_of hlen rfl (we_eq (by simp; omega)))) ?_
  rw [if_neg h120]
  show ws (bSeq _ _ [some (.int S), some (.ref r), some ex, none, none] G) _
  rw [show iv (.int (S : Int)) = S from rfl]
  have ch : ∀ i (hi : i < ds.length), (∀ j, j < i → wrd S ds j = "") → F__law_channel_fault [.int S, .ref r, .int i] G = some (.val (.str (wrd S ds i)), G) := fun i hi hw => chan_fault_ok hr hi hl hg fun k hk => by
    have := hw k hk
    unfold wrd at this
    exact (wrd1_nil.mp this).1
  have lay := fun i => wrd1_lay (s := (S : Int)) (d := ds.getD i .non) (du := dup ds i)
  have tt : ∀ (i : Nat) (o : Option D), tB (eOp (dEqv true) (eVar 4) (eC (.str ""))) [some (.int S), some (.ref r), some ex, some (.int i), some (.str (wrd S ds i))] G = some (.val (!decide (wrd S ds i = "")), G) := fun i o => tb_of (eOp_of (var_of rfl) rfl (neq_str (lay i) words_lay.2.2.2.1))
  cases hf : firstW (S : Int) ds with
  | some i =>
    obtain ⟨hi, hwi, hw⟩ := firstW_some hf
    rw [ws_bSeq]
    refine ws_sFor (wRng1_eq (j := (ds.length : Int)) (G1 := G) (fa_cons hlen fa_nil) (by omega)) (fun j gs G2 => j ≤ i ∧ G2 = G ∧ ∃ o3 o4, gs = [some (.int S), some (.ref r), some ex, o3, o4]) ⟨Nat.zero_le _, rfl, none, none, rfl⟩ (fun _ _ _ _ _ => trivial) ?_ ?_
    · rintro j hj gs G2 ⟨hji, rfl, o3, o4, rfl⟩
      rw [rngD_get hj]
      simp only [Int.zero_add]
      rw [asO_gNm]
      have ec := ch j (by omega) (fun k hk => hw k (by omega))
      refine ws_cut (fun gs G' => gs = [some (.int S), some (.ref r), some ex, some (.int j), some (.str (wrd S ds j))] ∧ G' = G2) (by rw [ws_sAsg]; exact we_of (call_of (fa_cons (var_of rfl) (fa_cons (var_of rfl) (fa_cons (var_of rfl) fa_nil))) ec) (by rw [onR_val, asO_gNm]; exact ⟨rfl, rfl, rfl⟩)) ?_
      rintro gs0 G3 ⟨rfl, rfl⟩
      have t := tt j none
      by_cases hji2 : j = i
      · subst hji2
        rw [decide_eq_false hwi] at t
        refine ws_ifY (G1 := G3) t ?_
        refine ws_retE (we_of (r := .val (.tup [.str (wrd S ds j), .int j])) (G := G3) (eArgs_of (fa_cons (var_of rfl) (fa_cons (var_of rfl) fa_nil)) rfl) ?_)
        rw [onR_val, onFl_rt, onTurn_rt, onFl_rt]
        exact fin rfl .refl rfl (fun _ z => nomatch z) (gs := [])
      · rw [decide_eq_true (hw j (by omega))] at t
        refine ws_ifN (G1 := G3) t ?_
        rw [ws_bNil, onTurn_nx]
        exact ⟨by omega, rfl, _, _, rfl⟩
    · rintro gs G2 ⟨h, -⟩
      rw [rngD_length] at h
      omega
  | none =>
    have hw := firstW_none hf
    have hall := all_ok hf
    refine ws_cut (fun gs G2 => G2 = G ∧ ∃ o3 o4, gs = [some (.int S), some (.ref r), some ex, o3, o4]) ?_ ?_
    · refine ws_sFor (wRng1_eq (j := (ds.length : Int)) (G1 := G) (fa_cons hlen fa_nil) (by omega)) (fun j gs G2 => G2 = G ∧ ∃ o3 o4, gs = [some (.int S), some (.ref r), some ex, o3, o4]) ⟨rfl, none, none, rfl⟩ (fun _ _ _ _ _ => trivial) ?_ ?_
      · rintro j hj gs G2 ⟨rfl, o3, o4, rfl⟩
        rw [rngD_get hj]
        simp only [Int.zero_add]
        rw [asO_gNm]
        rw [rngD_length] at hj
        have hj2 : j < ds.length := by omega
        have ec := ch j hj2 (fun k hk => hw k (by omega))
        refine ws_cut (fun gs G' => gs = [some (.int S), some (.ref r), some ex, some (.int j), some (.str (wrd S ds j))] ∧ G' = G2) (by rw [ws_sAsg]; exact we_of (call_of (fa_cons (var_of rfl) (fa_cons (var_of rfl) (fa_cons (var_of rfl) fa_nil))) ec) (by rw [onR_val, asO_gNm]; exact ⟨rfl, rfl, rfl⟩)) ?_
        rintro gs0 G3 ⟨rfl, rfl⟩
        have t := tt j none
        rw [decide_eq_true (hw j hj2)] at t
        refine ws_ifN (G1 := G3) t ?_
        rw [ws_bNil, onTurn_nx]
        exact ⟨rfl, _, _, rfl⟩
      · rintro gs G2 ⟨rfl, o3, o4, rfl⟩
        exact ⟨rfl, rfl, o3, o4, rfl⟩
    rintro gs0 G2 ⟨rfl, o3, o4, rfl⟩
    dsimp only
    have hne := law_number_ok he 1 999 G2
    rw [← goodC_num] at hne
    cases e2 : goodC ex with
    | false =>
      rw [e2] at hne
      refine ws_ifY (G1 := G2) (tn_of (b := false) (tb_of (call_of (fa_cons (var_of rfl) (fa_cons rfl (fa_cons rfl fa_nil))) hne))) ?_
      refine ws_retE (we_of (r := .val (.tup [.str "capacity", .non])) (G := G2) (eArgs_of (fa_cons rfl (fa_cons rfl fa_nil)) rfl) ?_)
      rw [onR_val, onFl_rt]
      exact fin rfl .refl rfl (fun _ z => nomatch z) (gs := [])
    | true =>
    rw [e2] at hne
    refine ws_ifN (G1 := G2) (tn_of (b := true) (tb_of (call_of (fa_cons (var_of rfl) (fa_cons rfl (fa_cons rfl fa_nil))) hne))) ?_
    rw [if_neg (show ¬ (true = false) from fun z => nomatch z)]
    obtain ⟨b, eb, hb⟩ := law_circle_ok (S := S) (by omega) (fun d hd => (hall d hd).1) hl hr
    rw [circB_of hb]
    cases b with
    | true =>
      refine ws_ifY (G1 := G2) (tb_of (call_of (fa_cons (var_of rfl) (fa_cons (var_of rfl) fa_nil)) eb)) ?_
      refine ws_retE (we_of (r := .val (.tup [.str "circle", .non])) (G := G2) (eArgs_of (fa_cons rfl (fa_cons rfl fa_nil)) rfl) ?_)
      rw [onR_val, onFl_rt]
      exact fin rfl .refl rfl (fun _ z => nomatch z) (gs := [])
    | false =>
      refine ws_ifN (G1 := G2) (tb_of (call_of (fa_cons (var_of rfl) (fa_cons (var_of rfl) fa_nil)) eb)) ?_
      refine ws_retE (we_of (r := .val .non) (G := G2) rfl ?_)
      rw [onR_val]
      exact fin rfl .refl rfl (fun _ z => nomatch z) (gs := [])
end
end FI.K00
set_option maxRecDepth 100000
set_option maxHeartbeats 4000000
namespace FI.K00
open PySem L2 PySem.Spec PyProof.Rows FI
def cap0 (ex : D) : D → Int
  | .tup [_, _, c] => iv c
  | _ => iv ex
def trE (ex d : D) : Tr := ((pr d).1, (pr d).2, cap0 ex d)
section
variable {ds : List D} {s ex : D} {G : Hh}
theorem trE_ok {S : Int} (h : ∀ d ∈ ds, okCh S d = true ∧ capOk d = true) (he : goodC ex = true) : ∀ c ∈ ds.map (trE ex), OkC S c := fun c hc => by
  obtain ⟨d, hd, rfl⟩ := List.mem_map.mp hc
  obtain ⟨h1, h2⟩ := h d hd
  obtain ⟨a, b, xs, rfl, -, -, hp, p0, p1, p2, p3, p4, hxs⟩ := okCh_ints h1
  have hcap : 1 ≤ cap0 ex (.tup xs) ∧ cap0 ex (.tup xs) ≤ 999 := by
    rcases hxs with rfl | ⟨c, rfl⟩
    · obtain ⟨i, rfl, i1, i2⟩ := goodC_int he
      exact ⟨i1, i2⟩
    · have h2' : goodC c = true := h2
      obtain ⟨i, rfl, i1, i2⟩ := goodC_int h2'
      exact ⟨i1, i2⟩
  unfold trE
  rw [hp]
  exact ⟨p0, p1, p2, p3, p4, hcap.1, hcap.2⟩
theorem triple_of {S : Int} {d : D} (h : okCh S d = true ∧ capOk d = true) (he : goodC ex = true) {gs : Sg} {H : Hh} (h2 : gs[2]? = some (some ex)) (h5 : gs[5]? = some (some d)) : eIf (tB (eOp (dEqv false) (eArgs (d1 bLen) (aCons (eVar 5) aNil)) (eC (.int 3)))) (eVar 5) (eArgs dTup (aCons (eOp dIx (eVar 5) (eC (.int 0))) (aCons (eOp dIx (eVar 5) (eC (.int 1))) (aCons (eVar 2) aNil)))) gs H = some (.val (tT (trE ex d)), H) := by
  obtain ⟨k1, k2⟩ := h
  obtain ⟨a, b, xs, rfl, a0, a1, hp, -, -, -, -, -, hxs⟩ := okCh_ints k1
  have hlen : eArgs (d1 bLen) (aCons (eVar 5) aNil) gs H = some (.val (.int xs.length), H) := eArgs_of (ds := [.tup xs]) (fa_cons (var_of h5) fa_nil) rfl
  unfold eIf trE
  rw [hp]
  rcases hxs with rfl | ⟨c, rfl⟩
  · have ht : tB (eOp (dEqv false) (eArgs (d1 bLen) (aCons (eVar 5) aNil)) (eC (.int 3))) gs H = some (.val false, H) := tb_of (b := false) (eOp_of hlen rfl (we_eq (by simp)))
    rw [ht, bnd_val, if_neg Bool.false_ne_true]
    obtain ⟨i, rfl, -⟩ := goodC_int he
    exact eArgs_of (fa_cons (eOp_of (var_of h5) rfl (we_eq (by simp [a0]))) (fa_cons (eOp_of (var_of h5) rfl (we_eq (by simp [a1]))) (fa_cons (var_of h2) fa_nil))) rfl
  · have k2' : goodC c = true := k2
    obtain ⟨i, rfl, -⟩ := goodC_int k2'
    have ht : tB (eOp (dEqv false) (eArgs (d1 bLen) (aCons (eVar 5) aNil)) (eC (.int 3))) gs H = some (.val true, H) := tb_of (b := true) (eOp_of hlen rfl (we_eq (by simp)))
    rw [ht, bnd_val, if_pos rfl]
    exact var_of h5
theorem init_any {B : List D → Option (List D)} {as : List D} (hB : B as = some [.ref G.length, s, ex, .tup ds]) (hs : CapD s) (he : CapD ex) (hg : ∀ d ∈ ds, GivD G d) (hl : ds.length ≤ 1000) : mkFnB B N_Pipeline_init.length b_Pipeline_init as (G ++ [.ins 8 []]) = match faultK s ds ex with
    | some p => some (.exc (inX p.1 p.2), G ++ [.ins 8 []])
    | none => some (.val .non, G ++ [.ins 8 (netFs (iv s) (srt3 (ds.map (trE ex))))]) := by
  obtain ⟨H, hH⟩ : ∃ H, G ++ [O.ins 8 []] = H := ⟨_, rfl⟩
  have kH : Keep [] G H := by rw [← hH]; exact .app
  have hgH : ∀ d ∈ ds, GivD H d := fun d hd => (hg d hd).mono kH
  have gI : H[G.length]? = some (.ins 8 []) := by rw [← hH]; simp
  have bad : ∀ {p : D × D} {rest : SS} {t : ST} {e1 e2 : SE} {gs : Sg} {R : Fl → Sg → Hh → Prop}, t gs H = some (.val true, H) → e1 gs H = some (.val p.1, H) → e2 gs H = some (.val p.2, H) → R (.ex (inX p.1 p.2)) gs H → ws (bSeq (sIf t (bSeq (sRaise 1 2 [(0, 1), (1, 2)] (aCons e1 (aCons e2 aNil))) bNil) bNil) rest gs H) R := fun ht h1 h2 hR => by
    refine ws_ifY ht ?_
    refine raise_ws h1 h2 ?_
    rw [onFl_ex]
    exact hR
  have finX : ∀ {x : Exc} {gs : Sg}, (match (Fl.ex x) with
      | .nx => we (slim H (some (Rs.val D.non, H))) fun r' G' => r' = Rs.exc x ∧ G' = H
      | .rt d' => we (slim H (some (Rs.val d', H))) fun r' G' => r' = Rs.exc x ∧ G' = H
      | .ex x' => we (slim H (some (Rs.exc x', H))) fun r' G' => r' = Rs.exc x ∧ G' = H
      | x => False) := fun {x gs} => by
    show we (slim H (some (.exc x, H))) _
    rw [slim_same]
    exact (we_some _ _).mpr ⟨rfl, rfl⟩
  have hns := is_int_ok hs H
  have t1 : tOr' (tNot' (tB (eCall F_is_integer (aCons (eVar 1) aNil)))) (tNot' (tB (eChain dLe dLe (eC (.int 1)) (eVar 1) (eC (.int 40))))) [some (.ref G.length), some s, some ex, some (.tup ds), none, none] H = some (.val (!numO 1 40 s), H) := by
    have ec : tNot' (tB (eCall F_is_integer (aCons (eVar 1) aNil))) [some (.ref G.length), some s, some ex, some (.tup ds), none, none] H = some (.val (!isI s), H) := tn_of (tb_of (call_of (fa_cons (var_of rfl) fa_nil) hns))
    cases s with
    | int i =>
      refine tor_of ec ?_
      refine we_eq ?_
      by_cases h3 : 1 ≤ i
      · by_cases h4 : i ≤ 40 <;> simp [we_eVar, h3, h4, numO]
      · simp [we_eVar, h3, numO]
    | bl b => exact tor_t ec
    | non => exact tor_t ec
    | str y => exact tor_t ec
    | tup xs => exact tor_t ec
    | _ => exact hs.elim
  unfold faultK
  rw [hH]
  cases e1 : numO 1 40 s with
  | false =>
    rw [e1] at t1
    rw [if_pos rfl]
    dsimp only
    refine we_eq (we_fn hB ?_)
    show ws (b_Pipeline_init [some (.ref G.length), some s, some ex, some (.tup ds), none, none] H) _
    unfold b_Pipeline_init
    exact bad (p := (.str "stages", .non)) t1 rfl rfl (finX (gs := []))
  | true =>
  rw [e1] at t1
  rw [if_neg (show ¬ (true = false) from fun z => nomatch z)]
  obtain ⟨S, rfl, s1, s2⟩ := numO_int e1
  obtain ⟨S, rfl⟩ : ∃ n : Nat, S = n := ⟨S.toNat, by omega⟩
  have hlen : eArgs (d1 bLen) (aCons (eVar 3) aNil) [some (.ref G.length), some (.int S), some ex, some (.tup ds), none, none] H = some (.val (.int ds.length), H) := eArgs_of (ds := [.tup ds]) (fa_cons (var_of rfl) fa_nil) rfl
  by_cases h120 : 120 < ds.length
  · rw [if_pos h120]
    dsimp only
    refine we_eq (we_fn hB ?_)
    show ws (b_Pipeline_init [some (.ref G.length), some (.int S), some ex, some (.tup ds), none, none] H) _
    unfold b_Pipeline_init
    refine ws_ifN t1 ?_
    exact bad (p := (.str "limit", .non)) (tb_of (b := true) (eOp_of hlen rfl (we_eq (by simp; omega)))) rfl rfl (finX (gs := []))
  rw [if_neg h120]
  rw [show iv (.int (S : Int)) = S from rfl]
  have t2 : tB (eOp dGt (eArgs (d1 bLen) (aCons (eVar 3) aNil)) (eC (.int 120))) [some (.ref G.length), some (.int S), some ex, some (.tup ds), none, none] H = some (.val false, H) := tb_of (b := false) (eOp_of hlen rfl (we_eq (by simp; omega)))
  have ck := check_any (s := (S : Int)) hgH hl
  cases hf : firstW (S : Int) ds with
  | some i =>
    rw [hf] at ck
    dsimp only at ck ⊢
    refine we_eq (we_fn hB ?_)
    show ws (b_Pipeline_init [some (.ref G.length), some (.int S), some ex, some (.tup ds), none, none] H) _
    unfold b_Pipeline_init
    refine ws_ifN t1 (ws_ifN t2 ?_)
    rw [ws_bSeq, ws_sDrop]
    refine we_of (call_of (fa_cons (var_of rfl) (fa_cons (var_of rfl) fa_nil)) ck) ?_
    rw [onR_exc, onFl_ex]
    exact finX (gs := [])
  | none =>
  have hall := all_ok hf
  rw [hf] at ck
  dsimp only at ck ⊢
  have nc := net_cap_ok he H
  have t3 : tNot' (tB (eCall F_Net_is_capacity (aCons (eVar 2) aNil))) [some (.ref G.length), some (.int S), some ex, some (.tup ds), none, none] H = some (.val (!goodC ex), H) := tn_of (tb_of (call_of (fa_cons (var_of rfl) fa_nil) nc))
  have head : ∀ {R : Fl → Sg → Hh → Prop} {rest : SS}, ws (rest [some (.ref G.length), some (.int S), some ex, some (.tup ds), none, none] H) R → ws (bSeq (sDrop (eCall F_check_channels (aCons (eVar 3) (aCons (eVar 1) aNil)))) rest [some (.ref G.length), some (.int S), some ex, some (.tup ds), none, none] H) R := fun h => by
    rw [ws_bSeq, ws_sDrop]
    refine we_of (call_of (fa_cons (var_of rfl) (fa_cons (var_of rfl) fa_nil)) ck) ?_
    rw [onR_val, onFl_nx]
    exact h
  cases e2 : goodC ex with
  | false =>
    rw [e2] at t3
    rw [if_pos rfl]
    dsimp only
    refine we_eq (we_fn hB ?_)
    show ws (b_Pipeline_init [some (.ref G.length), some (.int S), some ex, some (.tup ds), none, none] H) _
    unfold b_Pipeline_init
    refine ws_ifN t1 (ws_ifN t2 (head ?_))
    exact bad (p := (.str "capacity", .non)) t3 rfl rfl (finX (gs := []))
  | true =>
  rw [e2] at t3
  rw [if_neg (show ¬ (true = false) from fun z => nomatch z)]
  obtain ⟨b, eb, hb⟩ := has_circle_any (S := S) (by omega) (fun d hd => (hall d hd).1) hl H
  rw [circB_of hb]
  have t4 : tB (eCall F_has_circle (aCons (eVar 3) (aCons (eVar 1) aNil))) [some (.ref G.length), some (.int S), some ex, some (.tup ds), none, none] H = some (.val b, H) := tb_of (call_of (fa_cons (var_of rfl) (fa_cons (var_of rfl) fa_nil)) eb)
  cases b with
  | true =>
    rw [if_pos rfl]
    dsimp only
    refine we_eq (we_fn hB ?_)
    show ws (b_Pipeline_init [some (.ref G.length), some (.int S), some ex, some (.tup ds), none, none] H) _
    unfold b_Pipeline_init
    refine ws_ifN t1 (ws_ifN t2 (head (ws_ifN t3 ?_)))
    exact bad (p := (.str "circle", .non)) t4 rfl rfl (finX (gs := []))
  | false =>
  rw [if_neg Bool.false_ne_true]
  dsimp only
  have hok := trE_ok hall e2
  obtain ⟨cs, hcs⟩ : ∃ cs, ds.map (trE ex) = cs := ⟨_, rfl⟩
  rw [hcs] at hok ⊢
  have hcl : cs.length = ds.length := by rw [← hcs, List.length_map]
  have hsl : (srt3 cs).length = cs.length := srt3_perm.length_eq
  refine we_eq (we_fn hB ?_)
  show ws (b_Pipeline_init [some (.ref G.length), some (.int S), some ex, some (.tup ds), none, none] H) _
  unfold b_Pipeline_init
  refine ws_ifN t1 (ws_ifN t2 (head (ws_ifN t3 (ws_ifN t4 ?_))))
  obtain ⟨H1, hH1⟩ : ∃ H1, H ++ [O.lst (cs.map tT)] = H1 := ⟨_, rfl⟩
  refine ws_cut (fun gs G' => gs = [some (.ref G.length), some (.int S), some ex, some (.tup ds), some (.ref H.length), none] ∧ G' = H1) ?_ ?_
  · rw [ws_sAsg]
    refine we_eLcP (items := ds) (gd := anyH) (G1 := H) (wSeq_tup (var_of rfl)) (fun d => some (tT (trE ex d))) (by omega) (fun _ => trivial) ?_ ?_
    · intro d hd acc
      rw [asO_gNm]
      refine ⟨rfl, ?_⟩
      rw [we_tTrue, onR_val]
      refine ⟨rfl, ?_⟩
      rw [if_pos rfl]
      refine we_of (triple_of (hall d hd) e2 (by simp [wipeG]) (by simp [wipeG])) ?_
      rw [onR_val]
      exact ⟨rfl, rfl⟩
    · rw [List.filterMap_eq_map', onR_val, asO_gNm]
      refine ⟨rfl, rfl, ?_⟩
      rw [← hH1, ← hcs, List.map_map]
      rfl
  rintro gs0 H1' ⟨rfl, rfl⟩
  have gL : H1'[H.length]? = some (.lst (cs.map tT)) := by rw [← hH1]; simp
  have hsr := sorted3 (G := H1') (n := H.length) (cs := cs) gL
  obtain ⟨H2, hH2⟩ : ∃ H2, H1' ++ [O.lst ((srt3 cs).map tT)] = H2 := ⟨_, rfl⟩
  rw [hH2] at hsr
  have gS : H2[H1'.length]? = some (.lst ((srt3 cs).map tT)) := by rw [← hH2]; simp
  have gI1 : H1'[G.length]? = some (.ins 8 []) := by rw [← hH1, List.getElem?_append_left (List.getElem?_eq_some_iff.mp gI).1]; exact gI
  have gI2 : H2[G.length]? = some (.ins 8 []) := by rw [← hH2, List.getElem?_append_left (List.getElem?_eq_some_iff.mp gI1).1]; exact gI1
  have et : bTuple (.ref H1'.length) H2 = some (.val (.tup ((srt3 cs).map tT)), H2) := by
    unfold bTuple itemsD
    dsimp only
    rw [gS]
  have ni := Net_init_ok (c := 8) (n := G.length) (s := (S : Int)) (cs := srt3 cs) (by omega) (by omega) (fun c h => hok c (srt3_perm.mem_iff.mp h)) (by omega) rfl _ gI2
  rw [ws_bSeq, ws_sSup (n := G.length) (cn := 8) (fs := []) (F := F_Net_init) rfl gI1 rfl]
  refine we_of (r := .val [.int S, .tup ((srt3 cs).map tT)]) (G := H2) (fa_consG (var_of rfl) (fa_consG (eArgs_of (ds := [.ref H1'.length]) (fa_consG (eArgs_of (ds := [.ref H.length]) (fa_cons (var_of rfl) fa_nil) hsr) fa_nil) et) fa_nil)) ?_
  rw [onR_val]
  refine we_of ni ?_
  rw [onR_val, onFl_nx, ws_bNil]
  have hfin : H2.set G.length (.ins 8 (netFs S (srt3 cs))) = G ++ O.ins 8 (netFs S (srt3 cs)) :: [.lst (cs.map tT), .lst ((srt3 cs).map tT)] := by
    rw [← hH2, ← hH1, ← hH, List.append_assoc, List.append_assoc, List.set_append_right _ _ (Nat.le_refl _), Nat.sub_self]
    rfl
  rw [hfin, ← hH]
  exact net_slim
theorem make_bad {p : D × D} {as : List D} {Fi : Fn} (h : Fi (.ref G.length :: as) (G ++ [.ins 8 []]) = some (.exc (inX p.1 p.2), G ++ [.ins 8 []])) : mkCls 8 Fi as G = some (.exc (inX p.1 p.2), G ++ [.ins 8 []]) := by
  unfold mkCls
  rw [h]
  rfl
theorem make_good {as : List D} {Fi : Fn} {fs : List (Nat × D)} (h : Fi (.ref G.length :: as) (G ++ [.ins 8 []]) = some (.val .non, G ++ [.ins 8 fs])) : mkCls 8 Fi as G = some (.val (.ref G.length), G ++ [.ins 8 fs]) := by
  unfold mkCls
  rw [h]
  rfl
theorem C_any (hs : CapD s) (hg : ∀ d ∈ ds, GivD G d) (hl : ds.length ≤ 1000) : C_Pipeline (s :: ds) G = match faultK s ds (.int 1) with
    | some p => some (.exc (inX p.1 p.2), G ++ [.ins 8 []])
    | none => some (.val (.ref G.length), G ++ [.ins 8 (netFs (iv s) (srt3 (ds.map (trE (.int 1)))))]) := by
  have hb : bStarK 2 (.int 1) (.ref G.length :: s :: ds) = some [.ref G.length, s, .int 1, .tup ds] := by
    unfold bStarK
    rw [if_pos (by simp; omega)]
    rfl
  have e := init_any (ex := .int 1) hb hs trivial hg hl
  cases hf : faultK s ds (.int 1) with
  | some p =>
    rw [hf] at e
    exact make_bad e
  | none =>
    rw [hf] at e
    exact make_good e
theorem CW_any (hs : CapD s) (he : CapD ex) (hg : ∀ d ∈ ds, GivD G d) (hl : ds.length ≤ 1000) : CW_Pipeline (s :: ds ++ [ex]) G = match faultK s ds ex with
    | some p => some (.exc (inX p.1 p.2), G ++ [.ins 8 []])
    | none => some (.val (.ref G.length), G ++ [.ins 8 (netFs (iv s) (srt3 (ds.map (trE ex))))]) := by
  have hb : bStarW 2 (.ref G.length :: (s :: ds ++ [ex])) = some [.ref G.length, s, ex, .tup ds] := by
    unfold bStarW
    rw [if_pos (by simp; omega)]
    have e1 : (D.ref G.length :: (s :: ds ++ [ex]))[(D.ref G.length :: (s :: ds ++ [ex])).length - 1]? = some ex := by
      have : (D.ref G.length :: (s :: ds ++ [ex])) = (D.ref G.length :: s :: ds) ++ [ex] := rfl
      rw [this, List.length_append]
      simp
    rw [e1]
    dsimp only
    have e2 : ((D.ref G.length :: (s :: ds ++ [ex])).drop 2).dropLast = ds := by
      show (ds ++ [ex]).dropLast = ds
      exact List.dropLast_concat
    rw [e2]
    rfl
  have e := init_any hb hs he hg hl
  cases hf : faultK s ds ex with
  | some p =>
    rw [hf] at e
    exact make_bad e
  | none =>
    rw [hf] at e
    exact make_good e
end
end FI.K00
set_option maxRecDepth 100000
set_option maxHeartbeats 4000000
namespace FI.K00
open PySem L2 PySem.Spec PyProof.Rows FI
def trL (c : Tr) : List D := [.int c.1, .int c.2.1, .int c.2.2]
theorem rows_tup {cs : List Tr} {G : Hh} (hl : cs.length ≤ 1000) : F__law_same_rows [.tup (cs.map tT), .tup (cs.map tT)] G = some (.val (.bl true), G) := by
  have e : cs.map tT = (cs.map trL).map D.tup := by rw [List.map_map]; rfl
  rw [e]
  refine same_rows_ok seq_tup (by rw [List.length_map]; exact hl) fun l hlm => ?_
  obtain ⟨c, -, rfl⟩ := List.mem_map.mp hlm
  refine ⟨by simp [trL], fun d hd => ?_⟩
  simp only [trL, List.mem_cons, List.not_mem_nil, or_false] at hd
  rcases hd with rfl | rfl | rfl <;> exact trivial
theorem perm_sum {l m : List Int} (h : l.Perm m) : l.sum = m.sum := by
  induction h with
  | nil => rfl
  | cons x _ ih => simp [ih]
  | swap x y l => simp; omega
  | trans _ _ h1 h2 => exact h1.trans h2
theorem slo_perm {l m : List Tr} (h : l.Perm m) : slo l = slo m := perm_sum (h.map _)
section
variable {ds : List D} {ex : D} {S : Int} {r n : Nat} {G : Hh}
theorem good_ok (hr : G[r]? = some (.lst ds)) (hl : ds.length ≤ 120) (h : ∀ d ∈ ds, okCh S d = true ∧ capOk d = true) (he : goodC ex = true) (hn : NetAt G n 8 S (srt3 (ds.map (trE ex)))) : F__law_good [.ref n, .int S, .ref r, ex] G = some (.val (.bl true), G) := by
  obtain ⟨cs, hcs⟩ : ∃ cs, ds.map (trE ex) = cs := ⟨_, rfl⟩
  rw [hcs] at hn
  have hcl : cs.length = ds.length := by rw [← hcs, List.length_map]
  have hsl : (srt3 cs).length = cs.length := srt3_perm.length_eq
  have lr := (List.getElem?_eq_some_iff.mp hr).1
  refine we_eq (we_fn rfl ?_)
  unfold b__law_good
  obtain ⟨L, hL⟩ : ∃ L, G.length = L := ⟨_, rfl⟩
  refine ws_cut (fun gs G' => gs = [some (.ref n), some (.int S), some (.ref r), some ex, some (.ref L), none] ∧ G' = G ++ [.lst (([] : List Tr).map tT)]) (by simp [start0, N__law_good, we_eVar, hL]) ?_
  rintro gs0 G0 ⟨rfl, rfl⟩
  obtain ⟨H, hH⟩ : ∃ H, G ++ [O.lst (cs.map tT)] = H := ⟨_, rfl⟩
  refine ws_cut (fun gs G' => ∃ o5 : Option D, gs = [some (.ref n), some (.int S), some (.ref r), some ex, some (.ref L), o5] ∧ G' = H) ?_ ?_
  · refine ws_sFor (items := ds) (gd := stays r ds) (G1 := G ++ [.lst (([] : List Tr).map tT)]) (wSeq_ref (n := r) (var_of rfl) (by rw [List.getElem?_append_left lr]; exact hr)) (fun i gs G' => ∃ o5 : Option D, gs = [some (.ref n), some (.int S), some (.ref r), some ex, some (.ref L), o5] ∧ G' = G ++ [.lst ((cs.take i).map tT)]) ⟨none, rfl, by simp⟩ ?_ ?_ ?_
    · rintro i gs G' _ ⟨o5, rfl, rfl⟩
      unfold stays
      rw [List.getElem?_append_left lr]
      exact hr
    · rintro i hi gs G' ⟨o5, rfl, rfl⟩
      have hci : i < cs.length := by omega
      have hd := h _ (List.getElem_mem hi)
      have ec : cs[i] = trE ex ds[i] := by simp [← hcs]
      rw [asO_gNm]
      have gL : (G ++ [O.lst ((cs.take i).map tT)])[L]? = some (.lst ((cs.take i).map tT)) := by rw [← hL]; simp
      have et : eArgs dTup (aCons (eOp dIx (eVar 5) (eC (.int 0))) (aCons (eOp dIx (eVar 5) (eC (.int 1))) (aCons (eIf (tB (eOp (dEqv false) (eArgs (d1 bLen) (aCons (eVar 5) aNil)) (eC (.int 3)))) (eOp dIx (eVar 5) (eC (.int 2))) (eVar 3)) aNil))) [some (.ref n), some (.int S), some (.ref r), some ex, some (.ref L), some ds[i]] (G ++ [O.lst ((cs.take i).map tT)]) = some (.val (tT (trE ex ds[i])), G ++ [O.lst ((cs.take i).map tT)]) := by
        generalize ds[i] = d at hd
        generalize G ++ [O.lst ((cs.take i).map tT)] = K
        obtain ⟨k1, k2⟩ := hd
        obtain ⟨a, b, xs, rfl, a0, a1, hp, -, -, -, -, -, hxs⟩ := okCh_ints k1
        have hlen : eArgs (d1 bLen) (aCons (eVar 5) aNil) [some (.ref n), some (.int S), some (.ref r), some ex, some (.ref L), some (.tup xs)] K = some (.val (.int xs.length), K) := eArgs_of (ds := [.tup xs]) (fa_cons (var_of rfl) fa_nil) rfl
        unfold trE
        rw [hp]
        refine eArgs_of (ds := [.int a, .int b, .int (cap0 ex (.tup xs))]) (fa_cons (eOp_of (var_of rfl) rfl (we_eq (by simp [a0]))) (fa_cons (eOp_of (var_of rfl) rfl (we_eq (by simp [a1]))) (fa_cons ?_ fa_nil))) rfl
        unfold eIf
        rcases hxs with rfl | ⟨c, rfl⟩
        · have ht : tB (eOp (dEqv false) (eArgs (d1 bLen) (aCons (eVar 5) aNil)) (eC (.int 3))) [some (.ref n), some (.int S), some (.ref r), some ex, some (.ref L), some (.tup [.int a, .int b])] K = some (.val false, K) := tb_of (b := false) (eOp_of hlen rfl (we_eq (by simp)))
          rw [ht, bnd_val, if_neg Bool.false_ne_true]
          obtain ⟨i, rfl, -⟩ := goodC_int he
          exact var_of rfl
        · have k2' : goodC c = true := k2
          obtain ⟨i, rfl, -⟩ := goodC_int k2'
          have ht : tB (eOp (dEqv false) (eArgs (d1 bLen) (aCons (eVar 5) aNil)) (eC (.int 3))) [some (.ref n), some (.int S), some (.ref r), some ex, some (.ref L), some (.tup [.int a, .int b, .int i])] K = some (.val true, K) := tb_of (b := true) (eOp_of hlen rfl (we_eq (by simp)))
          rw [ht, bnd_val, if_pos rfl]
          exact eOp_of (var_of rfl) rfl (we_eq (by simp [atI, ixN, cap0, iv]))
      refine app_stmt (n := L) rfl gL et gL (by rw [List.length_map]; simp; omega) ?_
      rw [ws_bNil, onTurn_nx]
      refine ⟨_, rfl, ?_⟩
      rw [← hL, List.set_append_right _ _ (Nat.le_refl _), Nat.sub_self, List.take_succ_eq_append_getElem hci, ec, List.map_append]
      rfl
    · rintro gs G' ⟨o5, rfl, rfl⟩
      refine ⟨rfl, o5, rfl, ?_⟩
      rw [← hcl, List.take_length, hH]
  rintro gs0 H' ⟨o5, rfl, rfl⟩
  have kH : Keep [] G H' := by rw [← hH]; exact .app
  have gL : H'[L]? = some (.lst (cs.map tT)) := by rw [← hH, ← hL]; simp
  have hn' : NetAt H' n 8 S (srt3 cs) := ⟨hn.1, kH.get hn.2 (List.not_mem_nil)⟩
  have f5 := fld_at (cs := cIns) hn'.2 (cIns_of hn') netFs5
  have hsr := sorted3 gL
  obtain ⟨H2, hH2⟩ : ∃ H2, H' ++ [O.lst ((srt3 cs).map tT)] = H2 := ⟨_, rfl⟩
  rw [hH2] at hsr
  have k2 : Keep [] H' H2 := by rw [← hH2]; exact .app
  have gS : H2[H'.length]? = some (.lst ((srt3 cs).map tT)) := by rw [← hH2]; simp
  have et : bTuple (.ref H'.length) H2 = some (.val (.tup ((srt3 cs).map tT)), H2) := by
    unfold bTuple itemsD
    dsimp only
    rw [gS]
  have s1 := rows_tup (G := H2) (cs := srt3 cs) (by omega)
  refine ws_ifN (G1 := H2) (tn_of (b := true) (tb_of (call_of (fa_consG (eUn_of (var_of rfl) f5) (fa_consG (eArgs_of (ds := [.ref H'.length]) (fa_consG (eArgs_of (ds := [.ref L]) (fa_cons (var_of rfl) fa_nil) hsr) fa_nil) et) fa_nil)) s1))) ?_
  have hn2 : NetAt H2 n 8 S (srt3 cs) := ⟨hn.1, k2.get hn'.2 (List.not_mem_nil)⟩
  have f7 := fld_at (cs := cIns) hn2.2 (cIns_of hn2) netFs7
  have gL2 := k2.get gL (List.not_mem_nil)
  have lL2 := (List.getElem?_eq_some_iff.mp gL2).1
  obtain ⟨H3, hH3⟩ : ∃ H3, H2 ++ [O.lst ((cs.map fun c => c.2.2).map .int)] = H3 := ⟨_, rfl⟩
  have elc : eLc (wSeq (eVar 4)) (gNm 5) tTrue (eOp dIx (eVar 5) (eC (.int 2))) [5] [some (.ref n), some (.int S), some (.ref r), some ex, some (.ref L), o5] H2 = some (.val (.ref H2.length), H3) := by
    refine we_eq (we_lcTr (cs := cs) (gd := stays L (cs.map tT)) (G1 := H2) (wSeq_ref (n := L) (var_of rfl) gL2) (fun acc => by unfold stays; rw [List.getElem?_append_left lL2]; exact gL2) (by omega) (fun _ => true) (fun c => .int c.2.2) ?_ ?_)
    · intro c hc acc
      rw [asO_gNm]
      refine ⟨rfl, ?_⟩
      rw [we_tTrue]
      exact ⟨rfl, rfl, fun _ => eOp_of (var_of rfl) rfl rfl⟩
    · rw [List.filter_eq_self.mpr (fun _ _ => rfl)]
      refine ⟨rfl, ?_⟩
      rw [← hH3, List.map_map]
      rfl
  have k3 : Keep [] H2 H3 := by rw [← hH3]; exact .app
  have gT : H3[H2.length]? = some (.lst ((cs.map fun c => c.2.2).map .int)) := by rw [← hH3]; simp
  have es := bSum_at gT
  have hn3 : NetAt H3 n 8 S (srt3 cs) := ⟨hn.1, k3.get hn2.2 (List.not_mem_nil)⟩
  have esl : ePropT Tp_slots (eVar 0) [some (.ref n), some (.int S), some (.ref r), some ex, some (.ref L), o5] H2 = some (.val (.int (slo (srt3 cs))), H2) := slots_of hn2 (by omega) rfl
  rw [slo_perm srt3_perm] at esl
  have s2 := same_ok (d := .int S) trivial H2
  have s3 := same_ok (d := .int (slo cs)) trivial H3
  refine ws_retE (we_of (r := .val (.bl true)) (G := H3) (eAnd_t (call_of (fa_cons (eUn_of (var_of rfl) f7) (fa_cons (var_of rfl) fa_nil)) s2) (call_of (fa_consG esl (fa_consG (eArgs_of (ds := [.ref H2.length]) (fa_consG elc fa_nil) es) fa_nil)) s3)) ?_)
  rw [onR_val]
  exact slim_keep0 ((kH.trans k2).trans k3) (fun _ z => nomatch z) rfl ⟨rfl, rfl⟩
end
def LenK (k : Bool) (n : Nat) : Prop := n ≤ 7 ∨ (k = false ∧ (n = 40 ∨ n = 120 ∨ n = 121))
theorem fin_mk {c : Nat} {s : Int} {cs : List Tr} {G : Hh} : slim G (some (.val (.ref G.length), G ++ [.ins c (netFs s cs)])) = some (.val (.ref G.length), G ++ [.ins c (netFs s cs)]) := we_eq (fin_net ⟨rfl, rfl⟩)
section
variable {ds : List D} {s ex : D} {r : Nat} {G H G' : Hh} {x : Rs D}
theorem forty_any (hr : G[r]? = some (.lst ds)) (hl : ds.length = 40) (hX : C_Pipeline (s :: ds) G = some (x, H)) (hs : slim G (some (x, H)) = some (x, G')) : F__law_forty [s, .ref r] G = some (x, G') := by
  refine we_eq (we_fn rfl ?_)
  show ws (bSeq (sRet (eCall C_Pipeline (aCons (eVar 0) (aIxV 1 0 40)))) bNil _ _) _
  refine ws_retE ?_
  rw [call_of (fa_cons (var_of rfl) (aIxV_ok rfl hr 40 0 (by omega))) hX]
  exact we_retS rfl hs
theorem full_any (hr : G[r]? = some (.lst ds)) (hl : ds.length = 120) (hX : C_Pipeline (s :: ds) G = some (x, H)) (hs : slim G (some (x, H)) = some (x, G')) : F__law_full [s, .ref r] G = some (x, G') := by
  refine we_eq (we_fn rfl ?_)
  show ws (bSeq (sRet (eCall C_Pipeline (aCons (eVar 0) (aIxV 1 0 120)))) bNil _ _) _
  refine ws_retE ?_
  rw [call_of (fa_cons (var_of rfl) (aIxV_ok rfl hr 120 0 (by omega))) hX]
  exact we_retS rfl hs
theorem over_any (hr : G[r]? = some (.lst ds)) (hl : ds.length = 121) (hX : C_Pipeline (s :: ds) G = some (x, H)) (hs : slim G (some (x, H)) = some (x, G')) : F__law_over [s, .ref r] G = some (x, G') := by
  refine we_eq (we_fn rfl ?_)
  show ws (bSeq (sRet (eCall C_Pipeline (aCons (eVar 0) (aIxV 1 0 121)))) bNil _ _) _
  refine ws_retE ?_
  rw [call_of (fa_cons (var_of rfl) (aIxV_ok rfl hr 121 0 (by omega))) hX]
  exact we_retS rfl hs
theorem left_any (hr : G[r]? = some (.lst ds)) (hl : LenK false ds.length) (hX : C_Pipeline (s :: ds) G = some (x, H)) (hs : slim G (some (x, H)) = some (x, G')) (hs2 : slim G (some (x, G')) = some (x, G')) : F__law_left_out [s, .ref r] G = some (x, G') := by
  refine we_eq (we_fn rfl ?_)
  show ws (bCh 1 (fun lo => eCall C_Pipeline (aCons (eVar 0) (aIxV 1 0 lo))) (bSeq (sIf (tB (eOp (dEqv false) (eArgs (d1 bLen) (aCons (eVar 1) aNil)) (eC (.int 40)))) (bSeq (sRet (eCall F__law_forty (aCons (eVar 0) (aCons (eVar 1) aNil)))) bNil) bNil) (bSeq (sIf (tB (eOp (dEqv false) (eArgs (d1 bLen) (aCons (eVar 1) aNil)) (eC (.int 120)))) (bSeq (sRet (eCall F__law_full (aCons (eVar 0) (aCons (eVar 1) aNil)))) bNil) bNil) (bSeq (sRet (eCall F__law_over (aCons (eVar 0) (aCons (eVar 1) aNil)))) bNil))) 0 8 [some s, some (.ref r)] G) _
  rcases hl with hl | ⟨-, hl | hl | hl⟩
  · refine bCh_in rfl hr ?_ 8 0 (by omega) (by omega)
    dsimp only
    rw [call_of (fa_cons (var_of rfl) (aIxV_ok rfl hr ds.length 0 (by omega))) hX]
    exact we_retS rfl hs
  · refine bCh_out rfl hr ?_ 8 0 (by omega)
    rw [ws_lenIf rfl hr, if_pos (by omega)]
    refine ws_retE ?_
    rw [call_of (fa_cons (var_of rfl) (fa_cons (var_of rfl) fa_nil)) (forty_any hr hl hX hs)]
    exact we_retS rfl hs2
  · refine bCh_out rfl hr ?_ 8 0 (by omega)
    rw [ws_lenIf rfl hr, if_neg (by omega), ws_lenIf rfl hr, if_pos (by omega)]
    refine ws_retE ?_
    rw [call_of (fa_cons (var_of rfl) (fa_cons (var_of rfl) fa_nil)) (full_any hr hl hX hs)]
    exact we_retS rfl hs2
  · refine bCh_out rfl hr ?_ 8 0 (by omega)
    rw [ws_lenIf rfl hr, if_neg (by omega), ws_lenIf rfl hr, if_neg (by omega)]
    refine ws_retE ?_
    rw [call_of (fa_cons (var_of rfl) (fa_cons (var_of rfl) fa_nil)) (over_any hr hl hX hs)]
    exact we_retS rfl hs2
theorem callK_of {F : Fn} {fa fk : SA} {as es : List D} {gs : Sg} {K : Hh} {X : Option (Rs D × Hh)} (ha : fa gs K = some (.val as, K)) (hk : fk gs K = some (.val es, K)) (hF : F (as ++ es) K = X) : eCallK F fa fk gs K = X := by
  unfold eCallK
  rw [ha, bnd_val, hk, bnd_val, hF]
theorem keyed_any (hr : G[r]? = some (.lst ds)) (hl : ds.length ≤ 7) (hX : CW_Pipeline (s :: ds ++ [ex]) G = some (x, H)) (hs : slim G (some (x, H)) = some (x, G')) : F__law_keyed [s, .ref r, ex] G = some (x, G') := by
  refine we_eq (we_fn rfl ?_)
  show ws (bCh 1 (fun lo => eCallK CW_Pipeline (aCons (eVar 0) (aIxV 1 0 lo)) (aCons (eVar 2) aNil)) (bSeq (sRet (eCallK CW_Pipeline (aCons (eVar 0) (aIxV 1 0 7)) (aCons (eVar 2) aNil))) bNil) 0 7 [some s, some (.ref r), some ex] G) _
  by_cases h7 : ds.length < 7
  · refine bCh_in rfl hr ?_ 7 0 (by omega) (by omega)
    dsimp only
    rw [callK_of (fa_cons (var_of rfl) (aIxV_ok rfl hr ds.length 0 (by omega))) (fa_cons (var_of rfl) fa_nil) hX]
    exact we_retS rfl hs
  · refine bCh_out rfl hr ?_ 7 0 (by omega)
    refine ws_retE ?_
    rw [callK_of (fa_cons (var_of rfl) (aIxV_ok rfl hr 7 0 (by omega))) (fa_cons (var_of rfl) fa_nil) hX]
    exact we_retS rfl hs
theorem faultK_good (h : faultK s ds ex = none) : ∃ S : Int, s = .int S ∧ ds.length ≤ 120 ∧ (∀ d ∈ ds, okCh S d = true ∧ capOk d = true) ∧ goodC ex = true := by
  unfold faultK at h
  split at h
  · exact nomatch h
  rename_i h1
  split at h
  · exact nomatch h
  rename_i h2
  split at h
  · exact nomatch h
  rename_i h3
  split at h
  · exact nomatch h
  rename_i h4
  have h1' : numO 1 40 s = true := by simpa using h1
  obtain ⟨S, rfl, -⟩ := numO_int h1'
  exact ⟨S, rfl, by omega, all_ok h3, by simpa using h4⟩
theorem answered_ok {k : Bool} (hr : G[r]? = some (.lst ds)) (hs : CapD s) (he : CapD ex) (hk : k = false → ex = .int 1) (hg : ∀ d ∈ ds, GivD G d) (hl : LenK k ds.length) : F__law_answered [s, .ref r, ex, .bl k, dueD (faultK s ds ex)] G = some (.val (.bl true), G) := by
  have hll : ds.length ≤ 1000 := by unfold LenK at hl; omega
  obtain ⟨H, hH⟩ : ∃ H, G ++ [O.lst ds] = H := ⟨_, rfl⟩
  have kH : Keep [] G H := by rw [← hH]; exact .app
  have gH : H[G.length]? = some (.lst ds) := by rw [← hH]; simp
  have hgH : ∀ d ∈ ds, GivD H d := fun d hd => (hg d hd).mono kH
  have eb : bList (.ref r) G = some (.val (.ref G.length), H) := by
    unfold bList itemsD
    dsimp only
    rw [hr]
    dsimp only
    rw [hH]
  have ebl : ∀ gs : Sg, gs[1]? = some (some (.ref r)) → eArgs (d1 bList) (aCons (eVar 1) aNil) gs G = some (.val (.ref G.length), H) := fun gs h1 => eArgs_of (ds := [.ref r]) (fa_cons (var_of h1) fa_nil) eb
  have making : ∀ (x : Rs D) (H2 : Hh) (Q : Fl → Sg → Hh → Prop), (match faultK s ds ex with | some p => x = .exc (inX p.1 p.2) ∧ H2 = H | none => x = .val (.ref H.length) ∧ H2 = H ++ [.ins 8 (netFs (iv s) (srt3 (ds.map (trE ex))))]) → (match x with | .val d => Q .nx [some s, some (.ref r), some ex, some (.bl k), some (dueD (faultK s ds ex)), some d, none] H2 | .exc e => Q (.ex e) [some s, some (.ref r), some ex, some (.bl k), some (dueD (faultK s ds ex)), none, none] H2) → ws (bSeq (sIf (tB (eVar 3)) (bSeq (sAsg (eCall F__law_keyed (aCons (eVar 0) (aCons (eArgs (d1 bList) (aCons (eVar 1) aNil)) (aCons (eVar 2) aNil)))) (gNm 5)) bNil) (bSeq (sAsg (eCall F__law_left_out (aCons (eVar 0) (aCons (eArgs (d1 bList) (aCons (eVar 1) aNil)) aNil))) (gNm 5)) bNil)) bNil [some s, some (.ref r), some ex, some (.bl k), some (dueD (faultK s ds ex)), none, none] G) Q := fun x H2 Q hx hQ => by
    refine ws_bSeq.mpr ?_
    rw [ws_sIf]
    refine we_of (tb_of (b := k) (var_of rfl)) ?_
    rw [onR_val]
    have go : ∀ {e : SE}, e [some s, some (.ref r), some ex, some (.bl k), some (dueD (faultK s ds ex)), none, none] G = some (x, H2) → ws (bSeq (sAsg e (gNm 5)) bNil [some s, some (.ref r), some ex, some (.bl k), some (dueD (faultK s ds ex)), none, none] G) (onFl (fun gs1 G1 => ws (bNil gs1 G1) Q) Q) := fun h => by
      refine ws_bSeq.mpr ?_
      rw [ws_sAsg]
      refine we_of h ?_
      cases x with
      | val d =>
        rw [onR_val, asO_gNm, onFl_nx, ws_bNil, onFl_nx, ws_bNil]
        exact hQ
      | exc e =>
        rw [onR_exc, onFl_ex, onFl_ex]
        exact hQ
    cases k with
    | true =>
      rw [if_pos rfl]
      refine go ?_
      have h7 : ds.length ≤ 7 := by
        rcases hl with h | ⟨h, -⟩
        · exact h
        · exact nomatch h
      have ec := CW_any (ds := ds) (s := s) (ex := ex) hs he hgH hll
      have em : F__law_keyed [s, .ref G.length, ex] H = some (x, H2) := by
        cases hf : faultK s ds ex with
        | some p =>
          rw [hf] at ec hx
          obtain ⟨rfl, rfl⟩ := hx
          exact keyed_any gH h7 ec (by rw [slim_oldX (inX_bw (faultK_plain hf)) .app, List.take_left' rfl])
        | none =>
          rw [hf] at ec hx
          obtain ⟨rfl, rfl⟩ := hx
          exact keyed_any gH h7 ec fin_mk
      exact call_of (fa_consG (var_of rfl) (fa_consG (ebl _ rfl) (fa_consG (var_of rfl) fa_nil))) em
    | false =>
      rw [if_neg Bool.false_ne_true]
      have hex := hk rfl
      subst hex
      refine go ?_
      have ec := C_any (ds := ds) (s := s) hs hgH hll
      have em : F__law_left_out [s, .ref G.length] H = some (x, H2) := by
        cases hf : faultK s ds (.int 1) with
        | some p =>
          rw [hf] at ec hx
          obtain ⟨rfl, rfl⟩ := hx
          exact left_any gH hl ec (by rw [slim_oldX (inX_bw (faultK_plain hf)) .app, List.take_left' rfl]) slim_same
        | none =>
          rw [hf] at ec hx
          obtain ⟨rfl, rfl⟩ := hx
          exact left_any gH hl ec fin_mk fin_mk
      exact call_of (fa_consG (var_of rfl) (fa_consG (ebl _ rfl) fa_nil)) em
  refine we_eq (we_fn rfl ?_)
  unfold b__law_answered
  rw [ws_bSeq]
  show ws (sTryAs _ _ _ _ [some s, some (.ref r), some ex, some (.bl k), some (dueD (faultK s ds ex)), none, none] G) _
  cases hf : faultK s ds ex with
  | none =>
    rw [hf] at making
    obtain ⟨S, rfl, h120, hall, hge⟩ := faultK_good hf
    obtain ⟨H2, hH2⟩ : ∃ H2, H ++ [O.ins 8 (netFs (iv (.int S)) (srt3 (ds.map (trE ex))))] = H2 := ⟨_, rfl⟩
    have k2 : Keep [] G H2 := kH.trans (by rw [← hH2]; exact .app)
    have hn : NetAt H2 H.length 8 S (srt3 (ds.map (trE ex))) := ⟨rfl, by rw [← hH2]; simp [iv]⟩
    have eg := good_ok (k2.get hr (List.not_mem_nil)) h120 hall hge hn
    refine ws_tryN (gs1 := [some (.int S), some (.ref r), some ex, some (.bl k), some (dueD none), some (.ref H.length), none]) (G1 := H2) (making (.val (.ref H.length)) H2 _ ⟨rfl, hH2.symm⟩ ⟨rfl, rfl, rfl⟩) ?_
    rw [onFl_nx]
    refine ws_retE (we_of (r := .val (.bl true)) (G := H2) (eAnd_t (G1 := H2) (we_eq (by simp [we_eVar, dueD, dIs, D.isN])) (call_of (fa_cons (var_of rfl) (fa_cons (var_of rfl) (fa_cons (var_of rfl) (fa_cons (var_of rfl) fa_nil)))) eg)) ?_)
    rw [onR_val]
    exact slim_keep0 k2 (fun _ z => nomatch z) rfl ⟨rfl, rfl⟩
  | some p =>
    rw [hf] at making
    have pl := faultK_plain hf
    refine ws_tryX (x := inX p.1 p.2) (gs1 := [some s, some (.ref r), some ex, some (.bl k), some (dueD (some p)), none, none]) (G1 := H) (making (.exc (inX p.1 p.2)) H _ ⟨rfl, rfl⟩ ⟨rfl, rfl, rfl⟩) rfl (by simp) ?_
    have e0 : ∀ gs : Sg, eIsX xkt (inX p.1 p.2) (eC (.glb "InvalidNet")) gs H = some (.val (.bl true), H) := fun gs => isx_of (n := 1) (cc := .gl "InvalidNet") rfl (by decide) rfl (by decide)
    have e1 : ∀ gs : Sg, eIsX xkt (inX p.1 p.2) (eC (.ty "ValueError")) gs H = some (.val (.bl true), H) := fun gs => isx_of (n := 1) (cc := .ty "ValueError") rfl (by decide) rfl (by decide)
    have e4 : ∀ gs : Sg, eIsXT xkt (inX p.1 p.2) (eArgs dTup (aCons (eC (.glb "Blocked")) (aCons (eC (.glb "InvalidMove")) (aCons (eC (.glb "InvalidState")) (aCons (eC (.glb "InvalidText")) (aCons (eC (.glb "NotFound")) aNil)))))) gs H = some (.val (.bl false), H) := fun gs => isxt_of (n := 1) (ds := [.glb "Blocked", .glb "InvalidMove", .glb "InvalidState", .glb "InvalidText", .glb "NotFound"]) rfl (by decide) rfl (by decide +kernel)
    have e2 : ∀ gs : Sg, eXf [1] 0 (inX p.1 p.2) gs H = some (.val p.1, H) := fun gs => xf_of (n := 1) rfl (by simp) rfl
    have e3 : ∀ gs : Sg, eXf [1, 2] 1 (inX p.1 p.2) gs H = some (.val p.2, H) := fun gs => xf_of (n := 1) rfl (by simp) rfl
    have es := same_row_ok (G := H) (ds := [p.1, p.2]) (due := .tup [p.1, p.2]) seq_tup (by simp) (fun d hd => by
      simp only [List.mem_cons, List.not_mem_nil, or_false] at hd
      rcases hd with rfl | rfl
      · exact pl.1
      · exact pl.2)
    refine ws_ifN (G1 := H) (tor_of (tn_of (b := true) (tb_of (e0 _))) (tn_of (b := true) (tb_of (e1 _)))) ?_
    refine ws_ifN (G1 := H) (tb_of (e4 _)) ?_
    refine ws_retE (we_of (r := .val (.bl true)) (G := H) (eAnd_t (G1 := H) (we_eq (by simp [we_eVar, dueD, dIs, D.isN])) (call_of (ds := [.tup [p.1, p.2], .tup [p.1, p.2]]) (fa_cons (eArgs_of (ds := [p.1, p.2]) (fa_cons (e2 _) (fa_cons (e3 _) fa_nil)) rfl) (fa_cons (var_of rfl) fa_nil)) es)) ?_)
    rw [onR_val]
    exact slim_keep0 kH (fun _ z => nomatch z) rfl ⟨rfl, rfl⟩
end
end FI.K00
set_option maxRecDepth 100000
set_option maxHeartbeats 4000000
namespace FI.K00
open PySem L2 PySem.Spec PyProof.Rows FI
abbrev pT (p : Int × Int) : D := .tup [.int p.1, .int p.2]
abbrev pD (p : Int × Int) : PyData := .tuple [.int p.1, .int p.2]
theorem rp_pT {G : Hh} {k : Nat} (p : Int × Int) : Rp G (k + 2) (pT p) (pD p) := .tup (.cons (.int _) (.cons (.int _) .nil))
theorem eqv_pD (p q : Int × Int) : PyData.eqv (pD p) (pD q) = decide (p = q) := by
  obtain ⟨a, b⟩ := p
  obtain ⟨c, d⟩ := q
  show (PyData.eqv (.int a) (.int c) && (PyData.eqv (.int b) (.int d) && true)) = _
  have e : ∀ i j : Int, PyData.eqv (.int i) (.int j) = decide (i = j) := fun i j => by
    unfold PyData.eqv
    by_cases h : i = j <;> simp [h]
  rw [e, e, Bool.and_true]
  by_cases h1 : a = c <;> by_cases h2 : b = d <;> simp [h1, h2]
theorem in_pT {G : Hh} {neg : Bool} {r : Nat} {p : Int × Int} {ps : List (Int × Int)} (h : G[r]? = some (.lst (ps.map pT))) : dIn neg (pT p) (.ref r) G = some (.val (.bl (neg ^^ decide (p ∈ ps))), G) := by
  rw [in_rp (rp_pT p) (.lst h (.map (g := pD) fun q _ => rp_pT q))]
  have e : ∀ ps : List (Int × Int), (ps.map pD).any (fun z => PyData.eqv z (pD p)) = decide (p ∈ ps) := fun ps => by
    induction ps with
    | nil => rfl
    | cons q t ih =>
      rw [List.map_cons, List.any_cons, ih, eqv_pD]
      by_cases h1 : q = p
      · simp [h1]
      · simp [h1, Ne.symm h1]
  rw [e]
theorem BoxS.keepW {W : List Nat} {n c : Nat} {G G' : Hh} (h : BoxS [] n c G) (k : Keep W G G') (hn : n ∉ W) : BoxS [] n c G' := by
  obtain ⟨_, a, m, h1⟩ := h
  exact ⟨fun x hm => absurd hm (List.not_mem_nil), a, m, k.get h1 hn⟩
theorem slimN {n c c0 : Nat} {G G3 : Hh} {d : D} (hm : ∀ m, d ≠ .ref m) (h0 : BoxS [] n c0 G) (h3 : BoxS [] n c G3) (k : Keep [n] G G3) : we (slim G (some (.val d, G3))) fun r G' => r = .val d ∧ BoxS [] n c G' ∧ Keep [n] G G' := by
  by_cases h : d.bw G.length = true ∧ Old G G3
  · rw [slim_old hm h.1 h.2]
    have := cutK (J := []) h0 h3 k
    rw [List.append_nil] at this
    exact (we_some _ _).mpr ⟨rfl, this.1, this.2⟩
  · unfold slim
    cases d with
    | ref m => exact absurd rfl (hm m)
    | _ =>
      dsimp only
      split
      · rename_i h2
        first
          | exact absurd h2 h
          | exact absurd ⟨h2.2, h2.1⟩ h
      · exact (we_some _ _).mpr ⟨rfl, h3, k⟩
theorem cap_nref {d : D} (h : CapD d) : ∀ m, d ≠ .ref m := fun m e => by subst e; exact h
theorem pick {b : Nat} {G : Hh} {ds : List D} {fe : SE} {gs : Sg} {z : Int} (hb : BoxS [] b 0 G) (h0 : gs[0]? = some (some (.ref b))) (hz : z = ds.length) (hz0 : 1 ≤ ds.length) (hz1 : ds.length ≤ 1000) (hf : fe gs G = some (.val (.ref G.length), G ++ [.lst ds])) :
    ∃ d G', eOp dIx fe (eCall F__law_draw (aCons (eVar 0) (aCons (eC (.int z)) aNil))) gs G = some (.val d, G') ∧ d ∈ ds ∧ BoxS [] b 0 G' ∧ Keep [b] G G' := by
  subst hz
  have lb := hb.lt
  obtain ⟨G4, hG4⟩ : ∃ H, G ++ [O.lst ds] = H := ⟨_, rfl⟩
  have b4 : BoxS [] b 0 G4 := by rw [← hG4]; exact BoxS.keep (c := 0) hb .app
  obtain ⟨k, G5, e5, p0, p1, b5, k5⟩ := draw b4 (by omega) (z := (ds.length : Int)) (by omega) (by omega)
  obtain ⟨k, rfl⟩ : ∃ t : Nat, k = t := ⟨k.toNat, by omega⟩
  have hk : k < ds.length := by omega
  have gO : G5[G.length]? = some (.lst ds) := k5.get (by rw [← hG4]; simp) (by simp; omega)
  rw [hG4] at hf
  refine ⟨ds[k], G5, eOp_of hf (call_of (fa_cons (var_of h0) (fa_cons rfl fa_nil)) e5) ((seq_ref gO).ix k hk), List.getElem_mem hk, b5, Keep.trans (by rw [← hG4]; exact .app) k5⟩
def DrQ (b : Nat) (G : Hh) (r : Rs D) (G' : Hh) : Prop := ∃ d, r = .val d ∧ CapD d ∧ BoxS [] b 0 G' ∧ Keep [b] G G'
theorem dr_fin {b : Nat} {G G3 : Hh} {d : D} (h : BoxS [] b 0 G) (hd : CapD d) (b3 : BoxS [] b 0 G3) (k : Keep [b] G G3) : we (slim G (some (.val d, G3))) (DrQ b G) := by
  refine we_mono (slimN (cap_nref hd) h b3 k) ?_
  rintro r G' ⟨rfl, q1, q2⟩
  exact ⟨_, rfl, hd, q1, q2⟩
theorem dr_run {b : Nat} {G : Hh} {X : Option (Rs D × Hh)} (h : we X (DrQ b G)) : ∃ d G', X = some (.val d, G') ∧ CapD d ∧ BoxS [] b 0 G' ∧ Keep [b] G G' := by
  obtain ⟨r, G', e, d, rfl, q⟩ := h
  exact ⟨d, G', e, q⟩
section
variable {b : Nat} {G : Hh}
theorem count_any (h : BoxS [] b 0 G) : ∃ d G', F__law_count [.ref b] G = some (.val d, G') ∧ CapD d ∧ BoxS [] b 0 G' ∧ Keep [b] G G' := by
  refine dr_run ?_
  refine we_fn rfl ?_
  unfold b__law_count
  obtain ⟨v, G1, e1, v0, v1, b1, k1⟩ := draw h (by omega) (z := 8) (by omega) (by omega)
  refine ws_cut (fun gs G' => gs = [some (.ref b), some (.int v)] ∧ G' = G1) (by simp [start0, N__law_count, we_eVar, e1]) ?_
  rintro gs0 G2 ⟨rfl, rfl⟩
  by_cases hv : v = 0
  · refine ws_ifY (G1 := G2) (we_eq (by simp [we_eVar, hv])) ?_
    obtain ⟨d, G3, e3, hd, b3, k3⟩ := pick (gs := [some (.ref b), some (.int v)]) (z := 10) (ds := [.int 0, .int (-1), .int 41, .int 1000, .int 100000000000000000000, .bl true, .bl false, .non, .str "3", .tup [.int 3]]) (fe := eArgs dLst (aCons (eC (.int 0)) (aCons (eUn dNeg (eC (.int 1))) (aCons (eC (.int 41)) (aCons (eC (.int 1000)) (aCons (eOp dPow (eC (.int 10)) (eC (.int 20))) (aCons (eC (.bl true)) (aCons (eC (.bl false)) (aCons (eC .non) (aCons (eC (.str "3")) (aCons (eArgs dTup (aCons (eC (.int 3)) aNil)) aNil))))))))))) b1 rfl rfl (by decide) (by decide) rfl
    have hdc : CapD d := by
      simp only [List.mem_cons, List.not_mem_nil, or_false] at hd
      rcases hd with rfl | rfl | rfl | rfl | rfl | rfl | rfl | rfl | rfl | rfl <;> exact trivial
    refine ws_retE (we_of e3 ?_)
    rw [onR_val, onFl_rt]
    exact dr_fin h hdc b3 (k1.trans k3)
  refine ws_ifN (G1 := G2) (we_eq (by simp [we_eVar, hv])) ?_
  by_cases hv1 : v = 1
  · obtain ⟨u, G3, e3, u0, u1, b3, k3⟩ := draw b1 (by omega) (z := 40) (by omega) (by omega)
    refine ws_ifY (G1 := G2) (we_eq (by simp [we_eVar, hv1])) ?_
    refine ws_retE (we_of (r := .val (.int (1 + u))) (G := G3) (we_eq (by simp [we_eVar, e3])) ?_)
    rw [onR_val, onFl_rt]
    exact dr_fin (d := .int (1 + u)) h trivial b3 (k1.trans k3)
  refine ws_ifN (G1 := G2) (we_eq (by simp [we_eVar, hv1])) ?_
  obtain ⟨u, G3, e3, u0, u1, b3, k3⟩ := draw b1 (by omega) (z := 6) (by omega) (by omega)
  refine ws_retE (we_of (r := .val (.int (1 + u))) (G := G3) (we_eq (by simp [we_eVar, e3])) ?_)
  rw [onR_val]
  exact dr_fin (d := .int (1 + u)) h trivial b3 (k1.trans k3)
theorem extra_any (h : BoxS [] b 0 G) : ∃ d G', F__law_extra [.ref b] G = some (.val d, G') ∧ CapD d ∧ BoxS [] b 0 G' ∧ Keep [b] G G' := by
  refine dr_run ?_
  refine we_fn rfl ?_
  unfold b__law_extra
  obtain ⟨v, G1, e1, v0, v1, b1, k1⟩ := draw h (by omega) (z := 6) (by omega) (by omega)
  refine ws_cut (fun gs G' => gs = [some (.ref b), some (.int v)] ∧ G' = G1) (by simp [start0, N__law_extra, we_eVar, e1]) ?_
  rintro gs0 G2 ⟨rfl, rfl⟩
  by_cases hv : v = 0
  · refine ws_ifY (G1 := G2) (we_eq (by simp [we_eVar, hv])) ?_
    obtain ⟨d, G3, e3, hd, b3, k3⟩ := pick (gs := [some (.ref b), some (.int v)]) (z := 8) (ds := [.int 0, .int (-1), .int 1000, .int 100000000000000000000, .bl true, .non, .str "1", .tup [.int 1]]) (fe := eArgs dLst (aCons (eC (.int 0)) (aCons (eUn dNeg (eC (.int 1))) (aCons (eC (.int 1000)) (aCons (eOp dPow (eC (.int 10)) (eC (.int 20))) (aCons (eC (.bl true)) (aCons (eC .non) (aCons (eC (.str "1")) (aCons (eArgs dTup (aCons (eC (.int 1)) aNil)) aNil))))))))) b1 rfl rfl (by decide) (by decide) rfl
    have hdc : CapD d := by
      simp only [List.mem_cons, List.not_mem_nil, or_false] at hd
      rcases hd with rfl | rfl | rfl | rfl | rfl | rfl | rfl | rfl <;> exact trivial
    refine ws_retE (we_of e3 ?_)
    rw [onR_val, onFl_rt]
    exact dr_fin h hdc b3 (k1.trans k3)
  refine ws_ifN (G1 := G2) (we_eq (by simp [we_eVar, hv])) ?_
  by_cases hv1 : v = 1
  · refine ws_ifY (G1 := G2) (we_eq (by simp [we_eVar, hv1])) ?_
    obtain ⟨d, G3, e3, hd, b3, k3⟩ := pick (gs := [some (.ref b), some (.int v)]) (z := 3) (ds := [.int 1, .int 998, .int 999]) (fe := eArgs dLst (aCons (eC (.int 1)) (aCons (eC (.int 998)) (aCons (eC (.int 999)) aNil)))) b1 rfl rfl (by decide) (by decide) rfl
    have hdc : CapD d := by
      simp only [List.mem_cons, List.not_mem_nil, or_false] at hd
      rcases hd with rfl | rfl | rfl <;> exact trivial
    refine ws_retE (we_of e3 ?_)
    rw [onR_val, onFl_rt]
    exact dr_fin h hdc b3 (k1.trans k3)
  refine ws_ifN (G1 := G2) (we_eq (by simp [we_eVar, hv1])) ?_
  obtain ⟨u, G3, e3, u0, u1, b3, k3⟩ := draw b1 (by omega) (z := 999) (by omega) (by omega)
  refine ws_retE (we_of (r := .val (.int (1 + u))) (G := G3) (we_eq (by simp [we_eVar, e3])) ?_)
  rw [onR_val]
  exact dr_fin (d := .int (1 + u)) h trivial b3 (k1.trans k3)
theorem size_any (h : BoxS [] b 0 G) : ∃ d G', F__law_size [.ref b] G = some (.val d, G') ∧ CapD d ∧ BoxS [] b 0 G' ∧ Keep [b] G G' := by
  refine dr_run ?_
  refine we_fn rfl ?_
  unfold b__law_size
  obtain ⟨v, G1, e1, v0, v1, b1, k1⟩ := draw h (by omega) (z := 8) (by omega) (by omega)
  refine ws_cut (fun gs G' => gs = [some (.ref b), some (.int v)] ∧ G' = G1) (by simp [start0, N__law_size, we_eVar, e1]) ?_
  rintro gs0 G2 ⟨rfl, rfl⟩
  by_cases hv : v = 0
  · obtain ⟨u, G3, e3, u0, u1, b3, k3⟩ := draw b1 (by omega) (z := 999) (by omega) (by omega)
    refine ws_ifY (G1 := G2) (we_eq (by simp [we_eVar, hv])) ?_
    refine ws_retE (we_of (r := .val (.int (1 + u))) (G := G3) (we_eq (by simp [we_eVar, e3])) ?_)
    rw [onR_val, onFl_rt]
    exact dr_fin (d := .int (1 + u)) h trivial b3 (k1.trans k3)
  refine ws_ifN (G1 := G2) (we_eq (by simp [we_eVar, hv])) ?_
  by_cases hv1 : v = 1
  · obtain ⟨u, G3, e3, u0, u1, b3, k3⟩ := draw b1 (by omega) (z := 2) (by omega) (by omega)
    refine ws_ifY (G1 := G2) (we_eq (by simp [we_eVar, hv1])) ?_
    refine ws_retE (we_of (r := .val (.int (999 - 998 * u))) (G := G3) (we_eq (by simp [we_eVar, e3, dMul_r (i := 998) (j := u) ⟨by omega, by omega⟩])) ?_)
    rw [onR_val, onFl_rt]
    exact dr_fin (d := .int (999 - 998 * u)) h trivial b3 (k1.trans k3)
  refine ws_ifN (G1 := G2) (we_eq (by simp [we_eVar, hv1])) ?_
  obtain ⟨u, G3, e3, u0, u1, b3, k3⟩ := draw b1 (by omega) (z := 3) (by omega) (by omega)
  refine ws_retE (we_of (r := .val (.int (1 + u))) (G := G3) (we_eq (by simp [we_eVar, e3])) ?_)
  rw [onR_val]
  exact dr_fin (d := .int (1 + u)) h trivial b3 (k1.trans k3)
def GivN (n0 : Nat) (G : Hh) : D → Prop
  | .tup xs => (∀ x ∈ xs, CapD x) ∧ xs.length ≤ 4
  | .ref r => n0 ≤ r ∧ ∃ l, G[r]? = some (.lst l)
  | .non => True
  | _ => False
theorem GivN.giv {n0 : Nat} {d : D} (h : GivN n0 G d) : GivD G d := by
  cases d with
  | ref r => exact h.2
  | tup xs => exact h
  | non => trivial
  | _ => exact h.elim
theorem GivN.mono {n0 m0 : Nat} {G' : Hh} {W : List Nat} {d : D} (h : GivN n0 G d) (hm : m0 ≤ n0) (k : Keep W G G') (hW : ∀ x ∈ W, x < n0) : GivN m0 G' d := by
  cases d with
  | ref r =>
    obtain ⟨h1, l, hl⟩ := h
    exact ⟨Nat.le_trans hm h1, l, k.get hl (fun hx => by have := hW r hx; omega)⟩
  | tup xs => exact h
  | non => trivial
  | _ => exact h.elim
theorem bent_any {c x y : Int} (h : BoxS [] b 0 G) : ∃ d G', F__law_bent [.ref b, .int c, .int x, .int y] G = some (.val d, G') ∧ GivN G.length G' d ∧ BoxS [] b 0 G' ∧ Keep [b] G G' := by
  suffices key : we (F__law_bent [.ref b, .int c, .int x, .int y] G) fun r G' => ∃ d, r = .val d ∧ GivN G.length G' d ∧ BoxS [] b 0 G' ∧ Keep [b] G G' by
    obtain ⟨r, G', e, d, rfl, q⟩ := key
    exact ⟨d, G', e, q⟩
  have lb := h.lt
  have finT : ∀ {xs : List D} {G3 : Hh}, (∀ z ∈ xs, CapD z) → xs.length ≤ 4 → BoxS [] b 0 G3 → Keep [b] G G3 → we (slim G (some (.val (.tup xs), G3))) fun r G' => ∃ d, r = .val d ∧ GivN G.length G' d ∧ BoxS [] b 0 G' ∧ Keep [b] G G' := fun {xs G3} hx hl b3 k => by
    refine we_mono (slimN (fun m z => nomatch z) h b3 k) ?_
    rintro r G' ⟨rfl, q1, q2⟩
    exact ⟨_, rfl, ⟨hx, hl⟩, q1, q2⟩
  refine we_fn rfl ?_
  unfold b__law_bent
  obtain ⟨v, G1, e1, v0, v1, b1, k1⟩ := draw h (by omega) (z := 20) (by omega) (by omega)
  have b1' : BoxS [] b 0 G1 := b1
  have lG1 := k1.1
  refine ws_cut (fun gs G' => gs = [some (.ref b), some (.int c), some (.int x), some (.int y), some (.int v), none, none] ∧ G' = G1) (by simp [start0, N__law_bent, we_eVar, e1]) ?_
  rintro gs0 G2 ⟨rfl, rfl⟩
  have ix : ∀ {ds : List D} {i : Int} {fe fi : SE} {gs : Sg} {K : Hh}, fe gs K = some (.val (.ref K.length), K ++ [.lst ds]) → fi gs (K ++ [.lst ds]) = some (.val (.int i), K ++ [.lst ds]) → 0 ≤ i → i < ds.length → ∃ d ∈ ds, eOp dIx fe fi gs K = some (.val d, K ++ [.lst ds]) := fun {ds i fe fi gs K} hf hi i0 i1 => by
    obtain ⟨i, rfl⟩ : ∃ t : Nat, i = t := ⟨i.toNat, by omega⟩
    have gk : (K ++ [O.lst ds])[K.length]? = some (.lst ds) := by simp
    exact ⟨ds[i], List.getElem_mem (by omega), eOp_of hf hi ((seq_ref gk).ix i (by omega))⟩
  by_cases hv : v < 8
  · refine ws_ifY (G1 := G2) (we_eq (by simp [we_eVar, hv])) ?_
    obtain ⟨d, hd, e3⟩ := ix (ds := [.int 0, .int 1000, .int (-2), .int 100000000000000000000, .bl true, .non, .str "2", .tup [.int 2]]) (i := v) (fe := eArgs dLst (aCons (eC (.int 0)) (aCons (eC (.int 1000)) (aCons (eUn dNeg (eC (.int 2))) (aCons (eOp dPow (eC (.int 10)) (eC (.int 20))) (aCons (eC (.bl true)) (aCons (eC .non) (aCons (eC (.str "2")) (aCons (eArgs dTup (aCons (eC (.int 2)) aNil)) aNil))))))))) (fi := eVar 4) (gs := [some (.ref b), some (.int c), some (.int x), some (.int y), some (.int v), none, none]) (K := G2) rfl (var_of rfl) v0 (by simp; omega)
    have hdc : CapD d := by
      simp only [List.mem_cons, List.not_mem_nil, or_false] at hd
      rcases hd with rfl | rfl | rfl | rfl | rfl | rfl | rfl | rfl <;> exact trivial
    refine ws_cut (fun gs G' => gs = [some (.ref b), some (.int c), some (.int x), some (.int y), some (.int v), some d, none] ∧ ∃ J, G' = G2 ++ J) (by rw [ws_sAsg]; exact we_of e3 (by rw [onR_val, asO_gNm]; exact ⟨rfl, rfl, _, rfl⟩)) ?_
    rintro gs0 G3 ⟨rfl, J, rfl⟩
    refine ws_retE (we_of (r := .val (.tup [.int x, .int y, d])) (G := G2 ++ J) (eArgs_of (fa_cons (var_of rfl) (fa_cons (var_of rfl) (fa_cons (var_of rfl) fa_nil))) rfl) ?_)
    rw [onR_val, onFl_rt]
    refine finT (fun z hz => ?_) (by simp) (BoxS.keep (c := 0) b1' .app) (k1.trans .app)
    simp only [List.mem_cons, List.not_mem_nil, or_false] at hz
    rcases hz with rfl | rfl | rfl
    · trivial
    · trivial
    · exact hdc
  refine ws_ifN (G1 := G2) (we_eq (by simp [we_eVar, hv]; try omega)) ?_
  by_cases hv2 : v < 14
  · refine ws_ifY (G1 := G2) (we_eq (by simp [we_eVar, hv2])) ?_
    obtain ⟨d, hd, e3⟩ := ix (ds := [.int c, .int (-1), .int (c + 7), .bl true, .non, .str "0"]) (i := v - 8) (fe := eArgs dLst (aCons (eVar 1) (aCons (eUn dNeg (eC (.int 1))) (aCons (eOp dAdd (eVar 1) (eC (.int 7))) (aCons (eC (.bl true)) (aCons (eC .non) (aCons (eC (.str "0")) aNil))))))) (fi := eOp dSub (eVar 4) (eC (.int 8))) (gs := [some (.ref b), some (.int c), some (.int x), some (.int y), some (.int v), none, none]) (K := G2) (eArgs_of (ds := [.int c, .int (-1), .int (c + 7), .bl true, .non, .str "0"]) (fa_cons (var_of rfl) (fa_cons rfl (fa_cons (eOp_of (var_of rfl) rfl (we_eq (by simp))) (fa_cons rfl (fa_cons rfl (fa_cons rfl fa_nil)))))) rfl) (we_eq (by simp [we_eVar])) (by omega) (by simp; omega)
    have hdc : CapD d := by
      simp only [List.mem_cons, List.not_mem_nil, or_false] at hd
      rcases hd with rfl | rfl | rfl | rfl | rfl | rfl <;> exact trivial
    refine ws_cut (fun gs G' => gs = [some (.ref b), some (.int c), some (.int x), some (.int y), some (.int v), none, some d] ∧ ∃ J, G' = G2 ++ J) (by rw [ws_sAsg]; exact we_of e3 (by rw [onR_val, asO_gNm]; exact ⟨rfl, rfl, _, rfl⟩)) ?_
    rintro gs0 G3 ⟨rfl, J, rfl⟩
    have b3 : BoxS [] b 0 (G2 ++ J) := BoxS.keep (c := 0) b1' .app
    obtain ⟨u, G4, e4, u0, u1, b4, k4⟩ := draw b3 (by omega) (z := 2) (by omega) (by omega)
    have ecall : ∀ K K' w, F__law_draw [.ref b, .int 2] K = some (.val (.int w), K') → eCall F__law_draw (aCons (eVar 0) (aCons (eC (.int 2)) aNil)) [some (.ref b), some (.int c), some (.int x), some (.int y), some (.int v), none, some d] K = some (.val (.int w), K') := fun K K' w e => call_of (fa_cons (var_of rfl) (fa_cons rfl fa_nil)) e
    have kk4 : Keep [b] G G4 := (k1.trans .app).trans k4
    by_cases hu : u = 0
    · have ht : tB (eOp (dEqv false) (eCall F__law_draw (aCons (eVar 0) (aCons (eC (.int 2)) aNil))) (eC (.int 0))) [some (.ref b), some (.int c), some (.int x), some (.int y), some (.int v), none, some d] (G2 ++ J) = some (.val true, G4) := tb_of (b := true) (eOp_of (ecall _ _ _ e4) rfl (we_eq (by simp [hu])))
      refine ws_retE (we_of (r := .val (.tup [d, .int y])) (G := G4) ?_ ?_)
      · unfold eIf
        rw [ht, bnd_val, if_pos rfl]
        exact eArgs_of (fa_cons (var_of rfl) (fa_cons (var_of rfl) fa_nil)) rfl
      rw [onR_val, onFl_rt]
      refine finT (fun z hz => ?_) (by simp) b4 kk4
      simp only [List.mem_cons, List.not_mem_nil, or_false] at hz
      rcases hz with rfl | rfl
      · exact hdc
      · trivial
    · have ht : tB (eOp (dEqv false) (eCall F__law_draw (aCons (eVar 0) (aCons (eC (.int 2)) aNil))) (eC (.int 0))) [some (.ref b), some (.int c), some (.int x), some (.int y), some (.int v), none, some d] (G2 ++ J) = some (.val false, G4) := tb_of (b := false) (eOp_of (ecall _ _ _ e4) rfl (we_eq (by simp [hu])))
      obtain ⟨w, G5, e5, w0, w1, b5, k5⟩ := draw b4 (by omega) (z := 2) (by omega) (by omega)
      refine ws_retE (we_of (r := .val (.tup [.int x, d, .int (1000 * w)])) (G := G5) ?_ ?_)
      · unfold eIf
        rw [ht, bnd_val, if_neg Bool.false_ne_true]
        refine eArgs_of (ds := [.int x, d, .int (1000 * w)]) (fa_consG (var_of rfl) (fa_consG (var_of rfl) (fa_consG (eOp_of rfl (ecall _ _ _ e5) ?_) fa_nil))) rfl
        exact dMul_r (i := 1000) (j := w) ⟨by omega, by omega⟩
      rw [onR_val, onFl_rt]
      refine finT (fun z hz => ?_) (by simp) b5 (kk4.trans k5)
      simp only [List.mem_cons, List.not_mem_nil, or_false] at hz
      rcases hz with rfl | rfl | rfl
      · trivial
      · exact hdc
      · trivial
  refine ws_ifN (G1 := G2) (we_eq (by simp [we_eVar, hv2]; try omega)) ?_
  by_cases hv3 : v = 14
  · obtain ⟨w, G5, e5, w0, w1, b5, k5⟩ := draw b1 (by omega) (z := 2) (by omega) (by omega)
    refine ws_ifY (G1 := G2) (we_eq (by simp [we_eVar, hv3])) ?_
    refine ws_retE (we_of (r := .val (.tup [.int x, .int x, .int (1000 * w)])) (G := G5) ?_ ?_)
    · refine eArgs_of (ds := [.int x, .int x, .int (1000 * w)]) (fa_consG (var_of rfl) (fa_consG (var_of rfl) (fa_consG (eOp_of rfl (call_of (fa_cons (var_of rfl) (fa_cons rfl fa_nil)) e5) ?_) fa_nil))) rfl
      exact dMul_r (i := 1000) (j := w) ⟨by omega, by omega⟩
    rw [onR_val, onFl_rt]
    refine finT (fun z hz => ?_) (by simp) b5 (k1.trans k5)
    simp only [List.mem_cons, List.not_mem_nil, or_false] at hz
    rcases hz with rfl | rfl | rfl <;> trivial
  refine ws_ifN (G1 := G2) (we_eq (by simp [we_eVar, hv3])) ?_
  obtain ⟨K, hK⟩ : ∃ K, G2 ++ [O.lst [.int x, .int y]] = K := ⟨_, rfl⟩
  have lK : K.length = G2.length + 1 := by rw [← hK]; simp
  have gK : K[G2.length]? = some (.lst [.int x, .int y]) := by rw [← hK]; simp
  obtain ⟨i, hi⟩ : ∃ i : Nat, v - 15 = i := ⟨(v - 15).toNat, by omega⟩
  obtain ⟨ts, hts⟩ : ∃ ts, [D.ref G2.length, .tup [.int x], .tup [.int x, .int y, .int 2, .int 2], .tup [], .non] = ts := ⟨_, rfl⟩
  have tl : ts.length = 5 := by rw [← hts]; rfl
  have hi5 : i < ts.length := by omega
  have e5 : eArgs dLst (aCons (eArgs dLst (aCons (eVar 2) (aCons (eVar 3) aNil))) (aCons (eArgs dTup (aCons (eVar 2) aNil)) (aCons (eArgs dTup (aCons (eVar 2) (aCons (eVar 3) (aCons (eC (.int 2)) (aCons (eC (.int 2)) aNil))))) (aCons (eArgs dTup aNil) (aCons (eC .non) aNil))))) [some (.ref b), some (.int c), some (.int x), some (.int y), some (.int v), none, none] G2 = some (.val (.ref K.length), K ++ [.lst ts]) := by
    have hl : dLst ts K = some (.val (.ref K.length), K ++ [.lst ts]) := by rw [← hts]; rfl
    refine eArgs_of (ds := ts) (G1 := K) ?_ hl
    rw [← hts]
    exact fa_consG (eArgs_of (ds := [.int x, .int y]) (fa_cons (var_of rfl) (fa_cons (var_of rfl) fa_nil)) (by rw [← hK]; rfl)) (fa_consG (eArgs_of (fa_cons (var_of rfl) fa_nil) rfl) (fa_consG (eArgs_of (fa_cons (var_of rfl) (fa_cons (var_of rfl) (fa_cons rfl (fa_cons rfl fa_nil)))) rfl) (fa_consG (eArgs_of fa_nil rfl) (fa_consG rfl fa_nil))))
  have gT : (K ++ [O.lst ts])[K.length]? = some (.lst ts) := by simp
  have ex := (seq_ref gT).ix i hi5
  have k3 : Keep [b] G2 (K ++ [O.lst ts]) := by rw [← hK, List.append_assoc]; exact .app
  have b3 : BoxS [] b 0 (K ++ [O.lst ts]) := by rw [← hK, List.append_assoc]; exact BoxS.keep (c := 0) b1' .app
  refine ws_retE (we_of (r := .val ts[i]) (G := K ++ [.lst ts]) (eOp_of e5 (we_eq (by simp [we_eVar, hi])) ex) ?_)
  rw [onR_val]
  have hm : ts[i] ∈ ts := List.getElem_mem hi5
  generalize ts[i] = d at hm
  rw [← hts] at hm
  simp only [List.mem_cons, List.not_mem_nil, or_false] at hm
  rcases hm with rfl | rfl | rfl | rfl | rfl
  · have gr : (K ++ [O.lst ts])[G2.length]? = some (.lst [.int x, .int y]) := by rw [List.getElem?_append_left (by omega)]; exact gK
    obtain ⟨r', G', er, r0, r1, r2, r3, -⟩ := slimR h b3 (k1.trans k3) (by omega) gr
    show we (slim G (some (.val (.ref G2.length), K ++ [O.lst ts]))) _
    rw [er]
    exact (we_some _ _).mpr ⟨_, rfl, ⟨r0, _, r1⟩, r2, r3⟩
  · refine finT (fun z hz => ?_) (by simp) b3 (k1.trans k3)
    rw [List.mem_singleton.mp hz]; trivial
  · refine finT (fun z hz => ?_) (by simp) b3 (k1.trans k3)
    simp only [List.mem_cons, List.not_mem_nil, or_false] at hz
    rcases hz with rfl | rfl | rfl | rfl <;> trivial
  · exact finT (fun z hz => absurd hz (List.not_mem_nil)) (by simp) b3 (k1.trans k3)
  · refine we_mono (slimN (d := .non) (fun m z => nomatch z) h b3 (k1.trans k3)) ?_
    rintro r G' ⟨rfl, q1, q2⟩
    exact ⟨_, rfl, trivial, q1, q2⟩
end
end FI.K00
set_option maxRecDepth 100000
set_option maxHeartbeats 4000000
namespace FI.K00
open PySem L2 PySem.Spec PyProof.Rows FI
structure GvI (b L T : Nat) (G0 : Hh) (tn : List Int) (ds : List D) (sn : List (Int × Int)) (H : Hh) : Prop where
  box : BoxS [] b 0 H
  keep : Keep [b] G0 H
  bl : b < L
  tl : T < L
  tb : T ≠ b
  tk : H[T]? = some (.lst (tn.map .int))
  gv : H[L]? = some (.lst ds)
  se : H[L + 1]? = some (.lst (sn.map pT))
  all : ∀ d ∈ ds, GivN (L + 2) H d
theorem GvI.step {b L T : Nat} {G0 : Hh} {tn : List Int} {ds : List D} {sn : List (Int × Int)} {H H' : Hh} (h : GvI b L T G0 tn ds sn H) (hb : BoxS [] b 0 H') (k : Keep [b] H H') : GvI b L T G0 tn ds sn H' := by
  have l1 := h.bl
  have l2 := h.tl
  have tb := h.tb
  exact ⟨hb, h.keep.trans k, l1, l2, tb, k.get h.tk (by simpa using tb), k.get h.gv (by simp; omega), k.get h.se (by simp; omega), fun d hd => (h.all d hd).mono (Nat.le_refl _) k (fun x hx => by rw [List.mem_singleton.mp hx]; omega)⟩
theorem GvI.len {b L T : Nat} {G0 : Hh} {tn : List Int} {ds : List D} {sn : List (Int × Int)} {H : Hh} (h : GvI b L T G0 tn ds sn H) : L + 2 ≤ H.length := (List.getElem?_eq_some_iff.mp h.se).1
theorem sPar_ok {i j : Nat} {fa : SA} {gs : Sg} {G G1 : Hh} {d e : D} {R : Fl → Sg → Hh → Prop} (h : fa gs G = some (.val [d, e], G1)) (k : R .nx ((gs.set i (some d)).set j (some e)) G1) : ws (sPar i j fa gs G) R := by
  unfold sPar
  rw [h, onE_val]
  exact (ws_some _ _ _).mpr k
theorem in_pTn {G : Hh} {r : Nat} {p : Int × Int} {ps : List (Int × Int)} (h : G[r]? = some (.lst (ps.map pT))) : dIn true (pT p) (.ref r) G = some (.val (.bl (!decide (p ∈ ps))), G) := by
  rw [in_pT h, Bool.true_xor]
theorem given_any {b : Nat} {c : Int} {G : Hh} (h : BoxS [] b 0 G) (c1 : 1 ≤ c) (c2 : c ≤ 40) : ∃ r ds G', F__law_given [.ref b, .int c] G = some (.val (.ref r), G') ∧ G'[r]? = some (.lst ds) ∧ ds.length ≤ 7 ∧ (∀ d ∈ ds, GivD G' d) ∧ r ≠ b ∧ BoxS [] b 0 G' ∧ Keep [b] G G' := by
  suffices key : we (F__law_given [.ref b, .int c] G) fun rv G' => ∃ r ds, rv = .val (.ref r) ∧ G'[r]? = some (.lst ds) ∧ ds.length ≤ 7 ∧ (∀ d ∈ ds, GivD G' d) ∧ r ≠ b ∧ BoxS [] b 0 G' ∧ Keep [b] G G' by
    obtain ⟨rv, G', e, r, ds, rfl, q⟩ := key
    exact ⟨r, ds, G', e, q⟩
  have lb := h.lt
  refine we_fn rfl ?_
  unfold b__law_given
  obtain ⟨sy, G1, e1, y0, y1, b1, k1⟩ := draw h (by omega) (z := 4) (by omega) (by omega)
  refine ws_cut (fun gs G' => gs = [some (.ref b), some (.int c), some (.int sy), none, none, none, none, none, none, none, none] ∧ G' = G1) (by simp [start0, N__law_given, we_eVar, e1]) ?_
  rintro gs0 G1' ⟨rfl, rfl⟩
  obtain ⟨_, G2, e2, T, tn, rfl, t0, t1, tp, b2, k2⟩ := order_ok b1 (by omega) c1 c2
  have b2' : BoxS [] b 0 G2 := b2
  have ltn : (tn.length : Int) = c := by
    have := tp.length_eq
    rw [rngI_len] at this
    omega
  refine ws_cut (fun gs G' => gs = [some (.ref b), some (.int c), some (.int sy), some (.ref T), none, none, none, none, none, none, none] ∧ G' = G2) (by simp [we_eVar, e2]) ?_
  rintro gs0 G2' ⟨rfl, rfl⟩
  have lT := (List.getElem?_eq_some_iff.mp t1).1
  have lbG1 : b < G1'.length := b1.lt
  obtain ⟨L, hL⟩ : ∃ L, G2'.length = L := ⟨_, rfl⟩
  refine ws_cut (fun gs G' => gs = [some (.ref b), some (.int c), some (.int sy), some (.ref T), some (.ref L), none, none, none, none, none, none] ∧ G' = G2' ++ [.lst []]) (by simp [we_eVar, hL]) ?_
  rintro gs0 G3 ⟨rfl, rfl⟩
  obtain ⟨G4, hG4⟩ : ∃ H, G2' ++ [O.lst [], .lst (([] : List (Int × Int)).map pT)] = H := ⟨_, rfl⟩
  refine ws_cut (fun gs G' => gs = [some (.ref b), some (.int c), some (.int sy), some (.ref T), some (.ref L), some (.ref (L + 1)), none, none, none, none, none] ∧ G' = G4) (by simp [we_eVar, ← hL, ← hG4]) ?_
  rintro gs0 G4' ⟨rfl, rfl⟩
  have i0 : GvI b L T G tn [] [] G4' := by
    rw [← hG4]
    refine ⟨BoxS.keep (c := 0) b2' .app, (k1.trans k2).trans .app, by omega, by omega, by omega, by rw [List.getElem?_append_left lT]; exact t1, by rw [← hL]; simp, ?_, fun d hd => absurd hd (List.not_mem_nil)⟩
    rw [← hL, List.getElem?_append_right (by omega), show G2'.length + 1 - G2'.length = 1 from by omega]
    rfl
  have hGL : G.length ≤ L := by
    have := (k1.trans k2).1
    omega
  obtain ⟨many, G5, e5, m0, m1, b5, k5⟩ := draw i0.box (by omega) (z := 8) (by omega) (by omega)
  have i5 := i0.step b5 k5
  refine ws_cut (fun gs H => ∃ (ds : List D) (sn : List (Int × Int)) (o6 o7 o8 o9 o10 : Option D), gs = [some (.ref b), some (.int c), some (.int sy), some (.ref T), some (.ref L), some (.ref (L + 1)), o6, o7, o8, o9, o10] ∧ GvI b L T G tn ds sn H ∧ ds.length ≤ 7) ?_ ?_
  · refine ws_sFor (wRng1_eq (j := many) (G1 := G5) (fa_consG (call_of (fa_cons (var_of rfl) (fa_cons rfl fa_nil)) e5) fa_nil) (by omega)) (fun i gs H => ∃ (ds : List D) (sn : List (Int × Int)) (o6 o7 o8 o9 o10 : Option D), gs = [some (.ref b), some (.int c), some (.int sy), some (.ref T), some (.ref L), some (.ref (L + 1)), o6, o7, o8, o9, o10] ∧ GvI b L T G tn ds sn H ∧ ds.length ≤ i ∧ sn.length ≤ i) ⟨[], [], none, none, none, none, none, rfl, i5, Nat.le_refl _, Nat.le_refl _⟩ (fun _ _ _ _ _ => trivial) ?_ ?_
    · rintro i hi gs H ⟨ds, sn, o6, o7, o8, o9, o10, rfl, I, q1, q2⟩
      rw [rngD_get hi]
      simp only [Int.zero_add]
      rw [asO_gNm]
      rw [rngD_length] at hi
      have hi7 : i < 8 := by omega
      refine ws_cut (fun gs G' => gs = [some (.ref b), some (.int c), some (.int sy), some (.ref T), some (.ref L), some (.ref (L + 1)), some (.int i), some (.int 0), o8, o9, o10] ∧ G' = H) (by simp [we_eVar]) ?_
      rintro gs0 H' ⟨rfl, rfl⟩
      refine ws_cut (fun gs G' => gs = [some (.ref b), some (.int c), some (.int sy), some (.ref T), some (.ref L), some (.ref (L + 1)), some (.int i), some (.int 0), some (.int 0), o9, o10] ∧ G' = H') (by simp [we_eVar]) ?_
      rintro gs0 H' ⟨rfl, rfl⟩
      refine ws_cut (fun gs H2 => ∃ (x y : Int) (o9 : Option D), gs = [some (.ref b), some (.int c), some (.int sy), some (.ref T), some (.ref L), some (.ref (L + 1)), some (.int i), some (.int x), some (.int y), o9, o10] ∧ GvI b L T G tn ds sn H2) ?_ ?_
      · rw [ws_sIf]
        refine we_of (r := .val (decide (1 < c))) (G := H') (we_eq (by simp [we_eVar])) ?_
        rw [onR_val]
        by_cases hc1 : 1 < c
        · rw [decide_eq_true hc1, if_pos rfl]
          obtain ⟨f, H2, e2, f0, f1, b2, k2⟩ := draw I.box (by omega) (z := c - 1) (by omega) (by omega)
          have I2 := I.step b2 k2
          have esub : eOp dSub (eVar 1) (eC (.int 1)) [some (.ref b), some (.int c), some (.int sy), some (.ref T), some (.ref L), some (.ref (L + 1)), some (.int i), some (.int 0), some (.int 0), o9, o10] H' = some (.val (.int (c - 1)), H') := we_eq (by simp [we_eVar])
          refine ws_cut (fun gs G' => gs = [some (.ref b), some (.int c), some (.int sy), some (.ref T), some (.ref L), some (.ref (L + 1)), some (.int i), some (.int 0), some (.int 0), some (.int f), o10] ∧ G' = H2) (by rw [ws_sAsg]; exact we_of (call_of (fa_cons (var_of rfl) (fa_cons esub fa_nil)) e2) (by rw [onR_val, asO_gNm]; exact ⟨rfl, rfl, rfl⟩)) ?_
          rintro gs0 H2' ⟨rfl, rfl⟩
          obtain ⟨f, rfl⟩ : ∃ t : Nat, f = t := ⟨f.toNat, by omega⟩
          have hx := (seq_ref I2.tk).ix f (by rw [List.length_map]; omega)
          rw [List.getElem_map] at hx
          obtain ⟨x, hxx⟩ : ∃ x, tn[f]'(by omega) = x := ⟨_, rfl⟩
          rw [hxx] at hx
          refine ws_cut (fun gs G' => gs = [some (.ref b), some (.int c), some (.int sy), some (.ref T), some (.ref L), some (.ref (L + 1)), some (.int i), some (.int x), some (.int 0), some (.int f), o10] ∧ G' = H2') (by rw [ws_sAsg]; exact we_of (eOp_of (var_of rfl) (var_of rfl) hx) (by rw [onR_val, asO_gNm]; exact ⟨rfl, rfl, rfl⟩)) ?_
          rintro gs0 H2' ⟨rfl, rfl⟩
          obtain ⟨g, H3, e3, g0, g1, b3, k3⟩ := draw I2.box (by omega) (z := c - 1 - f) (by omega) (by omega)
          have I3 := I2.step b3 k3
          obtain ⟨g, rfl⟩ : ∃ t : Nat, g = t := ⟨g.toNat, by omega⟩
          have hy := (seq_ref I3.tk).ix (f + 1 + g) (by rw [List.length_map]; omega)
          rw [List.getElem_map] at hy
          obtain ⟨y, hyy⟩ : ∃ y, tn[f + 1 + g]'(by omega) = y := ⟨_, rfl⟩
          rw [hyy] at hy
          have esub2 : eOp dSub (eOp dSub (eVar 1) (eC (.int 1))) (eVar 9) [some (.ref b), some (.int c), some (.int sy), some (.ref T), some (.ref L), some (.ref (L + 1)), some (.int i), some (.int x), some (.int 0), some (.int f), o10] H2' = some (.val (.int (c - 1 - f)), H2') := we_eq (by simp [we_eVar])
          have eadd : eOp dAdd (eVar 9) (eC (.int 1)) [some (.ref b), some (.int c), some (.int sy), some (.ref T), some (.ref L), some (.ref (L + 1)), some (.int i), some (.int x), some (.int 0), some (.int f), o10] H2' = some (.val (.int (f + 1)), H2') := we_eq (by simp [we_eVar])
          have eidx : eOp dAdd (eOp dAdd (eVar 9) (eC (.int 1))) (eCall F__law_draw (aCons (eVar 0) (aCons (eOp dSub (eOp dSub (eVar 1) (eC (.int 1))) (eVar 9)) aNil))) [some (.ref b), some (.int c), some (.int sy), some (.ref T), some (.ref L), some (.ref (L + 1)), some (.int i), some (.int x), some (.int 0), some (.int f), o10] H2' = some (.val (.int ((f + 1 + g : Nat) : Int)), H3) := eOp_of eadd (call_of (fa_cons (var_of rfl) (fa_cons esub2 fa_nil)) e3) (we_eq (by simp))
          refine ws_mono (R' := fun fl gs G' => fl = .nx ∧ gs = [some (.ref b), some (.int c), some (.int sy), some (.ref T), some (.ref L), some (.ref (L + 1)), some (.int i), some (.int x), some (.int y), some (.int f), o10] ∧ G' = H3) ?_ ?_
          · refine ws_bSeq.mpr ?_
            rw [ws_sAsg]
            refine we_of (eOp_of (var_of rfl) eidx hy) ?_
            rw [onR_val, asO_gNm, onFl_nx, ws_bNil]
            exact ⟨rfl, rfl, rfl⟩
          · rintro _ _ _ ⟨rfl, rfl, rfl⟩
            exact ⟨rfl, x, y, _, rfl, I3⟩
        · rw [decide_eq_false hc1, if_neg Bool.false_ne_true, ws_bNil]
          exact ⟨rfl, 0, 0, _, rfl, I⟩
      rintro gs0 H2 ⟨x, y, o9, rfl, I2⟩
      refine ws_cut (fun gs H3 => ∃ (x y : Int), gs = [some (.ref b), some (.int c), some (.int sy), some (.ref T), some (.ref L), some (.ref (L + 1)), some (.int i), some (.int x), some (.int y), o9, o10] ∧ GvI b L T G tn ds sn H3) ?_ ?_
      · rw [ws_sIf]
        by_cases hsy : sy = 0
        · obtain ⟨u, H3, e3, u0, u1, b3, k3⟩ := draw I2.box (by omega) (z := 2) (by omega) (by omega)
          have I3 := I2.step b3 k3
          refine we_of (r := .val (decide (u = 1))) (G := H3) (tand_t (tb_of (b := true) (eOp_of (var_of rfl) rfl (we_eq (by simp [hsy])))) (tb_of (eOp_of (call_of (fa_cons (var_of rfl) (fa_cons rfl fa_nil)) e3) rfl (we_eq (by simp))))) ?_
          rw [onR_val]
          by_cases hu : u = 1
          · rw [decide_eq_true hu, if_pos rfl]
            refine ws_bSeq.mpr ?_
            refine sPar_ok (d := .int y) (e := .int x) (G1 := H3) (fa_cons (var_of rfl) (fa_cons (var_of rfl) fa_nil)) ?_
            rw [onFl_nx, ws_bNil]
            exact ⟨rfl, y, x, rfl, I3⟩
          · rw [decide_eq_false hu, if_neg Bool.false_ne_true, ws_bNil]
            exact ⟨rfl, x, y, rfl, I3⟩
        · refine we_of (r := .val false) (G := H2) (tand_f (tb_of (b := false) (eOp_of (var_of rfl) rfl (we_eq (by simp [hsy]))))) ?_
          rw [onR_val, if_neg Bool.false_ne_true, ws_bNil]
          exact ⟨rfl, x, y, rfl, I2⟩
      rintro gs0 H3 ⟨x, y, rfl, I3⟩
      refine ws_cut (fun gs G' => gs = [some (.ref b), some (.int c), some (.int sy), some (.ref T), some (.ref L), some (.ref (L + 1)), some (.int i), some (.int x), some (.int y), o9, some (.tup [.int x, .int y])] ∧ G' = H3) (by simp [we_eVar]) ?_
      rintro gs0 H3 ⟨rfl, rfl⟩
      refine ws_cut (fun gs H4 => ∃ d : D, gs = [some (.ref b), some (.int c), some (.int sy), some (.ref T), some (.ref L), some (.ref (L + 1)), some (.int i), some (.int x), some (.int y), o9, some d] ∧ GvI b L T G tn ds sn H4 ∧ GivN (L + 2) H4 d) ?_ ?_
      · obtain ⟨u, H4, e4, u0, u1, b4, k4⟩ := draw I3.box (by omega) (z := 3) (by omega) (by omega)
        have I4 := I3.step b4 k4
        rw [ws_sIf]
        refine we_of (r := .val (decide (0 < u))) (G := H4) (tb_of (eOp_of (call_of (fa_cons (var_of rfl) (fa_cons rfl fa_nil)) e4) rfl (we_eq (by simp)))) ?_
        rw [onR_val]
        by_cases hu : 0 < u
        · rw [decide_eq_true hu, if_pos rfl]
          obtain ⟨z, H5, e5, hz, b5, k5⟩ := size_any I4.box
          have I5 := I4.step b5 k5
          refine ws_bSeq.mpr ?_
          rw [ws_sAsg]
          refine we_of (r := .val (.tup [.int x, .int y, z])) (G := H5) (eArgs_of (fa_consG (var_of rfl) (fa_consG (var_of rfl) (fa_consG (call_of (fa_cons (var_of rfl) fa_nil) e5) fa_nil))) rfl) ?_
          rw [onR_val, asO_gNm, onFl_nx, ws_bNil]
          refine ⟨rfl, _, rfl, I5, fun w hw => ?_, by simp⟩
          simp only [List.mem_cons, List.not_mem_nil, or_false] at hw
          rcases hw with rfl | rfl | rfl
          · trivial
          · trivial
          · exact hz
        · rw [decide_eq_false hu, if_neg Bool.false_ne_true, ws_bNil]
          refine ⟨rfl, _, rfl, I4, fun w hw => ?_, by simp⟩
          simp only [List.mem_cons, List.not_mem_nil, or_false] at hw
          rcases hw with rfl | rfl <;> trivial
      rintro gs0 H4 ⟨d, rfl, I4, hd4⟩
      refine ws_cut (fun gs H5 => ∃ d : D, gs = [some (.ref b), some (.int c), some (.int sy), some (.ref T), some (.ref L), some (.ref (L + 1)), some (.int i), some (.int x), some (.int y), o9, some d] ∧ GvI b L T G tn ds sn H5 ∧ GivN (L + 2) H5 d) ?_ ?_
      · obtain ⟨u, H5, e5, u0, u1, b5, k5⟩ := draw I4.box (by omega) (z := 12) (by omega) (by omega)
        have I5 := I4.step b5 k5
        rw [ws_sIf]
        refine we_of (r := .val (decide (u = 0))) (G := H5) (tb_of (eOp_of (call_of (fa_cons (var_of rfl) (fa_cons rfl fa_nil)) e5) rfl (we_eq (by simp)))) ?_
        rw [onR_val]
        by_cases hu : u = 0
        · rw [decide_eq_true hu, if_pos rfl]
          obtain ⟨z, H6, e6, hz, b6, k6⟩ := bent_any (c := c) (x := x) (y := y) I5.box
          have I6 := I5.step b6 k6
          refine ws_bSeq.mpr ?_
          rw [ws_sAsg]
          refine we_of (call_of (fa_cons (var_of rfl) (fa_cons (var_of rfl) (fa_cons (var_of rfl) (fa_cons (var_of rfl) fa_nil)))) e6) ?_
          rw [onR_val, asO_gNm, onFl_nx, ws_bNil]
          exact ⟨rfl, _, rfl, I6, hz.mono (W := []) (by have := I5.len; omega) .refl (fun x hx => absurd hx (List.not_mem_nil))⟩
        · rw [decide_eq_false hu, if_neg Bool.false_ne_true, ws_bNil]
          exact ⟨rfl, d, rfl, I5, hd4.mono (Nat.le_refl _) k5 (fun x hx => by rw [List.mem_singleton.mp hx]; have := I4.bl; omega)⟩
      rintro gs0 H5 ⟨d, rfl, I5, hd5⟩
      have hin := in_pTn (p := (x, y)) I5.se
      have tin : tB (eOp (dIn true) (eArgs dTup (aCons (eVar 7) (aCons (eVar 8) aNil))) (eVar 5)) [some (.ref b), some (.int c), some (.int sy), some (.ref T), some (.ref L), some (.ref (L + 1)), some (.int i), some (.int x), some (.int y), o9, some d] H5 = some (.val (!decide ((x, y) ∈ sn)), H5) := tb_of (eOp_of (eArgs_of (fa_cons (var_of rfl) (fa_cons (var_of rfl) fa_nil)) rfl) (var_of rfl) hin)
      have tcond : ∃ q : Bool, tOr' (tB (eOp dLtA (eVar 2) (eC (.int 2)))) (tB (eOp (dIn true) (eArgs dTup (aCons (eVar 7) (aCons (eVar 8) aNil))) (eVar 5))) [some (.ref b), some (.int c), some (.int sy), some (.ref T), some (.ref L), some (.ref (L + 1)), some (.int i), some (.int x), some (.int y), o9, some d] H5 = some (.val q, H5) := by
        by_cases hs : sy < 2
        · exact ⟨true, tor_t (we_eq (by simp [we_eVar, hs]))⟩
        · exact ⟨_, tor_of (G1 := H5) (we_eq (by simp [we_eVar, hs]; try omega)) tin⟩
      obtain ⟨q, hq⟩ := tcond
      cases q with
      | false =>
        refine ws_ifN hq ?_
        rw [ws_bNil, onTurn_nx]
        exact ⟨ds, sn, _, _, _, _, _, rfl, I5, by omega, by omega⟩
      | true =>
        refine ws_ifY hq ?_
        have l1 := I5.bl
        have l2 := I5.tl
        have l3 := I5.len
        have g1 : (H5.set L (.lst (ds ++ [d])))[L + 1]? = some (.lst (sn.map pT)) := by rw [List.getElem?_set_ne (by omega)]; exact I5.se
        refine app_stmt (n := L) rfl I5.gv (var_of rfl) I5.gv (by omega) ?_
        refine app_stmt (n := L + 1) (d := pT (x, y)) rfl g1 (eArgs_of (fa_cons (var_of rfl) (fa_cons (var_of rfl) fa_nil)) rfl) g1 (by rw [List.length_map]; omega) ?_
        rw [ws_bNil, onFl_nx, ws_bNil, onTurn_nx]
        have k1 : Keep [L] H5 (H5.set L (.lst (ds ++ [d]))) := Keep.setN
        have k2 : Keep [L + 1] (H5.set L (.lst (ds ++ [d]))) ((H5.set L (.lst (ds ++ [d]))).set (L + 1) (.lst (sn.map pT ++ [pT (x, y)]))) := Keep.setN
        have k12 : Keep [L, L + 1] H5 ((H5.set L (.lst (ds ++ [d]))).set (L + 1) (.lst (sn.map pT ++ [pT (x, y)]))) := (k1.more (by simp)).trans (k2.more (by simp))
        refine ⟨ds ++ [d], sn ++ [(x, y)], _, _, _, _, _, rfl, ⟨I5.box.keepW k12 (by simp; omega), Keep.setNew (Keep.setNew I5.keep hGL) (by omega), l1, l2, I5.tb, k12.get I5.tk (by simp; omega), ?_, ?_, fun w hw => ?_⟩, by simp; omega, by simp; omega⟩
        · rw [List.getElem?_set_ne (by omega), List.getElem?_set_self (by omega)]
        · rw [List.getElem?_set_self (by rw [List.length_set]; omega), List.map_append]
          rfl
        · refine GivN.mono (n0 := L + 2) (W := [L, L + 1]) ?_ (Nat.le_refl _) k12 (fun x hx => by simp at hx; omega)
          rcases List.mem_append.mp hw with hw | hw
          · exact I5.all w hw
          · rw [List.mem_singleton.mp hw]; exact hd5
    · rintro gs H ⟨ds, sn, o6, o7, o8, o9, o10, rfl, I, q1, q2⟩
      rw [rngD_length] at q1
      exact ⟨rfl, ds, sn, o6, o7, o8, o9, o10, rfl, I, by omega⟩
  rintro gs0 H ⟨ds, sn, o6, o7, o8, o9, o10, rfl, I, hl⟩
  refine ws_retE (we_of (r := .val (.ref L)) (G := H) (var_of rfl) ?_)
  rw [onR_val]
  have hl4 : G.length ≤ L := by
    have := (k1.trans k2).1
    omega
  obtain ⟨r', G', er, r0, r1, r2, r3, r4⟩ := slimR h I.box I.keep hl4 I.gv
  show we (slim G (some (.val (.ref L), H))) _
  rw [er]
  refine (we_some _ _).mpr ⟨r', ds, rfl, r1, hl, fun d hd => ?_, by omega, r2, r3⟩
  rcases r4 with rfl | hbw
  · exact (I.all d hd).giv
  · have hN := I.all d hd
    cases d with
    | ref m =>
      have hmem : ∀ {l : List D} {k : Nat}, D.bwL k l = true → D.ref m ∈ l → m < k := fun {l k} => by
        induction l with
        | nil => intro _ hx; exact absurd hx (List.not_mem_nil)
        | cons y l ih =>
          intro hz hx
          have hz' : (D.bw k y && D.bwL k l) = true := hz
          obtain ⟨z1, z2⟩ := Bool.and_eq_true_iff.mp hz'
          rcases List.mem_cons.mp hx with rfl | hx
          · exact of_decide_eq_true z1
          · exact ih z2 hx
      have := hmem hbw hd
      have := hN.1
      omega
    | tup xs => exact hN
    | non => trivial
    | _ => exact hN.elim
end FI.K00
set_option maxRecDepth 100000
set_option maxHeartbeats 4000000
namespace FI.K00
open PySem L2 PySem.Spec PyProof.Rows FI
theorem mem_cutL {α : Type} {xs : List α} {a c : Option Int} {x : α} (h : x ∈ cutL xs a c) : x ∈ xs := by
  unfold cutL at h
  exact List.mem_of_mem_drop (List.mem_of_mem_take h)
theorem len_cutL {α : Type} {xs : List α} {a c : Option Int} : (cutL xs a c).length ≤ xs.length := by
  unfold cutL
  rw [List.length_take, List.length_drop]
  omega
theorem cut_of {gs : Sg} {G : Hh} {i S : Nat} {ds : List D} {f1 f2 : SO} {a b : Option Int} (h : gs[i]? = some (some (.ref S))) (hS : G[S]? = some (.lst ds)) (h1 : f1 gs G = some (.val a, G)) (h2 : f2 gs G = some (.val b, G)) : eSl (eVar i) f1 f2 gs G = some (.val (.ref G.length), G ++ [.lst (cutL ds a b)]) := we_eq (by simp [we_eVar, h, hS, h1, h2, dSl])
theorem oSome_of {f : SE} {gs : Sg} {G : Hh} {i : Int} (h : f gs G = some (.val (.int i), G)) : oSome f gs G = some (.val (some i), G) := we_eq (by simp [h])
theorem eq_str {x y : Str} {G : Hh} (h1 : PyData.canLay0 (.str x) = true) (h2 : PyData.canLay0 (.str y) = true) : dEqv false (.str x) (.str y) G = some (.val (.bl (decide (x = y))), G) := by
  rw [eqv_rp (neg := false) (Rp.str h1) (Rp.str h2), eqv_str]
  simp
theorem words_ne : ∀ w ∈ (["channel", "capacity", "duplicate", "limit"] : List Str), w ≠ "stages" ∧ w ≠ "circle" := by decide +kernel
theorem circle_stages : ("circle" : Str) ≠ "stages" := by decide +kernel
theorem wrd1_mem {s : Int} {d : D} {du : Bool} (h : wrd1 s d du ≠ "") : wrd1 s d du ∈ (["channel", "capacity", "duplicate", "limit"] : List Str) := by
  unfold wrd1 at h ⊢
  generalize okCh s d = x at h ⊢
  generalize capOk d = y at h ⊢
  cases x <;> cases y <;> cases du <;> simp at h ⊢
theorem faultK_cases {s ex : D} {ds : List D} {p : D × D} (h : faultK s ds ex = some p) (hl : ds.length ≤ 120) : (p = (.str "stages", .non) ∧ True) ∨ (∃ (w : Str) (i : Nat), p = (.str w, .int i) ∧ i < ds.length ∧ w ∈ (["channel", "capacity", "duplicate", "limit"] : List Str)) ∨ (p = (.str "capacity", .non) ∧ goodC ex = false) ∨ p = (.str "circle", .non) := by
  unfold faultK at h
  split at h
  · cases h; exact .inl ⟨rfl, trivial⟩
  split at h
  · omega
  split at h
  · rename_i i hf
    cases h
    obtain ⟨h1, h2, -⟩ := firstW_some hf
    exact .inr (.inl ⟨_, i, rfl, h1, wrd1_mem h2⟩)
  split at h
  · rename_i hb
    cases h; exact .inr (.inr (.inl ⟨rfl, hb⟩))
  split at h
  · cases h; exact .inr (.inr (.inr rfl))
  · exact nomatch h
theorem word_lay {w : Str} (h : w ∈ (["channel", "capacity", "duplicate", "limit"] : List Str)) : PyData.canLay0 (.str w) = true := by
  obtain ⟨n1, n2, n3, n4, n5, n6, n7⟩ := words_lay
  simp only [List.mem_cons, List.not_mem_nil, or_false] at h
  rcases h with rfl | rfl | rfl | rfl <;> assumption
theorem GivD.draw {b : Nat} {G G' : Hh} {d : D} (h : GivD G d) (k : Keep [b] G G') (hb : BoxS [] b 0 G') : GivD G' d := by
  cases d with
  | ref m =>
    obtain ⟨l, hl⟩ := h
    by_cases hm : m = b
    · subst hm
      obtain ⟨-, x, y, e⟩ := hb
      exact ⟨_, e⟩
    · exact ⟨l, k.get hl (by simpa using hm)⟩
  | tup xs => exact h
  | non => trivial
  | _ => exact h.elim
theorem ws_ifE {c : ST} {A B rest : SS} {gs : Sg} {G G1 : Hh} {R : Fl → Sg → Hh → Prop} (hc : c gs G = some (.val false, G1)) (h : ws (B gs G1) (onFl (fun gs G => ws (rest gs G) R) R)) : ws (bSeq (sIf c A B) rest gs G) R := by
  rw [ws_bSeq, ws_sIf]
  exact we_of hc h
section
variable {b : Nat} {G : Hh}
theorem small_ok (h : BoxS [] b 0 G) : we (F__law_small [.ref b] G) fun r G' => r = .val (.bl true) := by
  obtain ⟨n1, n2, n3, n4, n5, n6, n7⟩ := words_lay
  refine we_fn rfl ?_
  unfold b__law_small
  obtain ⟨s0, G1, e1, hs0, b1, k1⟩ := count_any h
  refine ws_cut (fun gs G' => gs = [some (.ref b), some s0, none, none, none, none, none, none] ∧ G' = G1) (by simp [start0, N__law_small, we_eVar, e1]) ?_
  rintro gs0 G1' ⟨rfl, rfl⟩
  have hnum := law_number_ok hs0 1 40 G1'
  obtain ⟨u, hu, u1, u2⟩ : ∃ u : Int, eIf (tB (eCall F__law_number (aCons (eVar 1) (aCons (eC (.int 1)) (aCons (eC (.int 40)) aNil))))) (eVar 1) (eC (.int 3)) [some (.ref b), some s0, none, none, none, none, none, none] G1' = some (.val (.int u), G1') ∧ 1 ≤ u ∧ u ≤ 40 := by
    have ht := tb_of (call_of (gs := [some (.ref b), some s0, none, none, none, none, none, none]) (fa_cons (var_of (i := 1) rfl) (fa_cons (fe := eC (.int 1)) rfl (fa_cons (fe := eC (.int 40)) rfl fa_nil))) hnum)
    unfold eIf
    rw [ht, bnd_val]
    cases hn : numO 1 40 s0 with
    | true =>
      obtain ⟨i, rfl, i1, i2⟩ := numO_int hn
      rw [if_pos rfl]
      exact ⟨i, var_of rfl, i1, i2⟩
    | false =>
      rw [if_neg Bool.false_ne_true]
      exact ⟨3, rfl, by omega, by omega⟩
  refine ws_cut (fun gs G' => gs = [some (.ref b), some s0, some (.int u), none, none, none, none, none] ∧ G' = G1') (by rw [ws_sAsg]; exact we_of hu (by rw [onR_val, asO_gNm]; exact ⟨rfl, rfl, rfl⟩)) ?_
  rintro gs0 G1' ⟨rfl, rfl⟩
  obtain ⟨r, ds, G2, e2, g2, dl, dg, rb, b2, k2⟩ := given_any b1 u1 u2
  refine ws_cut (fun gs G' => gs = [some (.ref b), some s0, some (.int u), some (.ref r), none, none, none, none] ∧ G' = G2) (by rw [ws_sAsg]; exact we_of (call_of (fa_cons (var_of rfl) (fa_cons (var_of rfl) fa_nil)) e2) (by rw [onR_val, asO_gNm]; exact ⟨rfl, rfl, rfl⟩)) ?_
  rintro gs0 G2' ⟨rfl, rfl⟩
  obtain ⟨v, G3, e3, v0, v1, b3, k3⟩ := draw b2 (by omega) (z := 2) (by omega) (by omega)
  have b3' : BoxS [] b 0 G3 := b3
  obtain ⟨ky, hky⟩ : ∃ ky : Bool, decide (v = 1) = ky := ⟨_, rfl⟩
  refine ws_cut (fun gs G' => gs = [some (.ref b), some s0, some (.int u), some (.ref r), some (.bl ky), none, none, none] ∧ G' = G3) (by rw [ws_sAsg]; exact we_of (eOp_of (r := some (.val (.bl ky), G3)) (call_of (fa_cons (var_of rfl) (fa_cons rfl fa_nil)) e3) rfl (we_eq (by simp [← hky]))) (by rw [onR_val, asO_gNm]; exact ⟨rfl, rfl, rfl⟩)) ?_
  rintro gs0 G3' ⟨rfl, rfl⟩
  refine ws_cut (fun gs G' => gs = [some (.ref b), some s0, some (.int u), some (.ref r), some (.bl ky), some (.int 1), none, none] ∧ G' = G3') (by simp [we_eVar]) ?_
  rintro gs0 G3' ⟨rfl, rfl⟩
  have gv3 : ∀ {H : Hh}, Keep [b] G2' H → H[r]? = some (.lst ds) := fun k => k.get g2 (by simpa using rb)
  have dg3 : ∀ d ∈ ds, GivD G3' d := fun d hd => (dg d hd).draw k3 b3'
  refine ws_cut (fun gs H => ∃ (ex : D) , gs = [some (.ref b), some s0, some (.int u), some (.ref r), some (.bl ky), some ex, none, none] ∧ CapD ex ∧ (ky = false → ex = .int 1) ∧ H[r]? = some (.lst ds) ∧ ∀ d ∈ ds, GivD H d) ?_ ?_
  · rw [ws_sIf]
    refine we_of (tb_of (b := ky) (var_of rfl)) ?_
    rw [onR_val]
    cases ky with
    | true =>
      rw [if_pos rfl]
      obtain ⟨ex, G4, e4, hex, b4, k4⟩ := extra_any b3'
      refine ws_bSeq.mpr ?_
      rw [ws_sAsg]
      refine we_of (call_of (fa_cons (var_of rfl) fa_nil) e4) ?_
      rw [onR_val, asO_gNm, onFl_nx, ws_bNil]
      exact ⟨rfl, ex, rfl, hex, (fun z => nomatch z), gv3 (k3.trans k4), fun d hd => (dg3 d hd).draw k4 b4⟩
    | false =>
      rw [if_neg Bool.false_ne_true, ws_bNil]
      exact ⟨rfl, .int 1, rfl, trivial, (fun _ => rfl), gv3 k3, dg3⟩
  rintro gs0 G4 ⟨ex0, rfl, hex0, hexk, g4, dg4⟩
  have fin : ∀ {fl : Fl} {gs : Sg} {K : Hh}, fl = .rt (.bl true) → (match fl with
      | .nx => we (slim G (some (Rs.val D.non, K))) fun r' G' => r' = Rs.val (D.bl true)
      | .rt d => we (slim G (some (Rs.val d, K))) fun r' G' => r' = Rs.val (D.bl true)
      | .ex x => we (slim G (some (Rs.exc x, K))) fun r' G' => r' = Rs.val (D.bl true)
      | x => False) := fun h => by
    subst h
    exact slim_bl fun _ => rfl
  rw [ws_bSeq]
  refine ws_sFor (wRng1_eq (j := 12) (G1 := G4) (fa_cons rfl fa_nil) (by omega)) (fun i gs H => ∃ (s ex : D) (r : Nat) (ds : List D) (o6 o7 : Option D), gs = [some (.ref b), some s, some (.int u), some (.ref r), some (.bl ky), some ex, o6, o7] ∧ CapD s ∧ CapD ex ∧ (ky = false → ex = .int 1) ∧ H[r]? = some (.lst ds) ∧ (∀ d ∈ ds, GivD H d) ∧ ds.length ≤ 7) ⟨s0, ex0, r, ds, none, none, rfl, hs0, hex0, hexk, g4, dg4, dl⟩ (fun _ _ _ _ _ => trivial) ?_ ?_
  · rintro i hi gs H ⟨s, ex, r, ds, o6, o7, rfl, p1, p2, p3, p4, p5, p6⟩
    rw [rngD_get hi]
    simp only [Int.zero_add]
    rw [asO_gNm]
    have ef := law_fault_ok p4 p1 p2 p5 (by omega)
    refine ws_cut (fun gs G' => gs = [some (.ref b), some s, some (.int u), some (.ref r), some (.bl ky), some ex, some (.int i), some (dueD (faultK s ds ex))] ∧ G' = H) (by rw [ws_sAsg]; exact we_of (call_of (fa_cons (var_of rfl) (fa_cons (var_of rfl) (fa_cons (var_of rfl) fa_nil))) ef) (by rw [onR_val, asO_gNm]; exact ⟨rfl, rfl, rfl⟩)) ?_
    rintro gs0 H' ⟨rfl, rfl⟩
    have ea := answered_ok (k := ky) p4 p1 p2 p3 p5 (.inl p6)
    refine ws_ifN (G1 := H') (tn_of (b := true) (tb_of (call_of (fa_cons (var_of rfl) (fa_cons (var_of rfl) (fa_cons (var_of rfl) (fa_cons (var_of rfl) (fa_cons (var_of rfl) fa_nil))))) ea))) ?_
    cases hf : faultK s ds ex with
    | none =>
      refine ws_ifY (G1 := H') (we_eq (by simp [we_eVar, dueD, dIs, D.isN])) ?_
      refine ws_retE (we_of (r := .val (.bl true)) (G := H') rfl ?_)
      rw [onR_val, onFl_rt, onTurn_rt, onFl_rt]
      exact fin rfl (gs := [])
    | some p =>
      refine ws_ifN (G1 := H') (we_eq (by simp [we_eVar, dueD, dIs, D.isN])) ?_
      have x0 : eOp dIx (eVar 7) (eC (.int 0)) [some (.ref b), some s, some (.int u), some (.ref r), some (.bl ky), some ex, some (.int i), some (dueD (some p))] H' = some (.val p.1, H') := eOp_of (var_of rfl) rfl rfl
      have x1 : eOp dIx (eVar 7) (eC (.int 1)) [some (.ref b), some s, some (.int u), some (.ref r), some (.bl ky), some ex, some (.int i), some (dueD (some p))] H' = some (.val p.2, H') := eOp_of (var_of rfl) rfl rfl
      rcases faultK_cases hf (by omega) with ⟨rfl, -⟩ | ⟨w, k, rfl, hk, hw⟩ | ⟨rfl, hg⟩ | rfl
      · have t0 : tB (eOp (dEqv false) (eOp dIx (eVar 7) (eC (.int 0))) (eC (.str "stages"))) [some (.ref b), some s, some (.int u), some (.ref r), some (.bl ky), some ex, some (.int i), some (dueD (some (.str "stages", .non)))] H' = some (.val true, H') := tb_of (eOp_of x0 rfl (by rw [eq_str n5 n5, decide_eq_true rfl]))
        refine ws_ifY t0 ?_
        refine ws_mono (R' := fun fl gs G' => fl = .nx ∧ gs = [some (.ref b), some (.int u), some (.int u), some (.ref r), some (.bl ky), some ex, some (.int i), some (dueD (some (.str "stages", .non)))] ∧ G' = H') (by simp [we_eVar]) ?_
        rintro _ _ _ ⟨rfl, rfl, rfl⟩
        rw [onFl_nx, ws_bNil, onTurn_nx]
        exact ⟨.int u, ex, r, ds, _, _, rfl, trivial, p2, p3, p4, p5, p6⟩
      · obtain ⟨w1, w2⟩ := words_ne w hw
        have wl := word_lay hw
        have t0 : tB (eOp (dEqv false) (eOp dIx (eVar 7) (eC (.int 0))) (eC (.str "stages"))) [some (.ref b), some s, some (.int u), some (.ref r), some (.bl ky), some ex, some (.int i), some (dueD (some (.str w, .int k)))] H' = some (.val false, H') := tb_of (eOp_of x0 rfl (by rw [eq_str wl n5, decide_eq_false w1]))
        have t1 : tB (eOp (dEqv false) (eOp dIx (eVar 7) (eC (.int 0))) (eC (.str "circle"))) [some (.ref b), some s, some (.int u), some (.ref r), some (.bl ky), some ex, some (.int i), some (dueD (some (.str w, .int k)))] H' = some (.val false, H') := tb_of (eOp_of x0 rfl (by rw [eq_str wl n7, decide_eq_false w2]))
        have t2 : tB (eOp (dIs false) (eOp dIx (eVar 7) (eC (.int 1))) (eC .non)) [some (.ref b), some s, some (.int u), some (.ref r), some (.bl ky), some ex, some (.int i), some (dueD (some (.str w, .int k)))] H' = some (.val false, H') := tb_of (eOp_of x1 rfl rfl)
        have c1 := cut_of (gs := [some (.ref b), some s, some (.int u), some (.ref r), some (.bl ky), some ex, some (.int i), some (dueD (some (.str w, .int k)))]) (i := 3) (f1 := oNone) (f2 := oSome (eOp dIx (eVar 7) (eC (.int 1)))) (a := none) (b := some (k : Int)) rfl p4 rfl (oSome_of x1)
        obtain ⟨H1, hH1⟩ : ∃ H1, H' ++ [O.lst (cutL ds none (some (k : Int)))] = H1 := ⟨_, rfl⟩
        rw [hH1] at c1
        have g1 : H1[r]? = some (.lst ds) := by rw [← hH1, List.getElem?_append_left (List.getElem?_eq_some_iff.mp p4).1]; exact p4
        have gA : H1[H'.length]? = some (.lst (cutL ds none (some (k : Int)))) := by rw [← hH1]; simp
        have x1' : eOp dIx (eVar 7) (eC (.int 1)) [some (.ref b), some s, some (.int u), some (.ref r), some (.bl ky), some ex, some (.int i), some (dueD (some (.str w, .int k)))] H1 = some (.val (.int k), H1) := eOp_of (var_of rfl) rfl rfl
        have c2 := cut_of (gs := [some (.ref b), some s, some (.int u), some (.ref r), some (.bl ky), some ex, some (.int i), some (dueD (some (.str w, .int k)))]) (G := H1) (i := 3) (f1 := oSome (eOp dAdd (eOp dIx (eVar 7) (eC (.int 1))) (eC (.int 1)))) (f2 := oNone) (a := some ((k : Int) + 1)) (b := none) rfl g1 (oSome_of (eOp_of x1' rfl (we_eq (by simp)))) rfl
        obtain ⟨H2, hH2⟩ : ∃ H2, H1 ++ [O.lst (cutL ds (some ((k : Int) + 1)) none)] = H2 := ⟨_, rfl⟩
        rw [hH2] at c2
        have gB : H2[H1.length]? = some (.lst (cutL ds (some ((k : Int) + 1)) none)) := by rw [← hH2]; simp
        have gA2 : H2[H'.length]? = some (.lst (cutL ds none (some (k : Int)))) := by rw [← hH2, List.getElem?_append_left (List.getElem?_eq_some_iff.mp gA).1]; exact gA
        have hk1 : cutL ds none (some (k : Int)) = ds.take k := cut_head (by omega) (by omega)
        have hk2 : cutL ds (some ((k : Int) + 1)) none = ds.drop (k + 1) := by rw [cut_tail (by omega) (by omega), show ((k : Int) + 1).toNat = k + 1 from by omega]
        have ec := cat_lst gA2 gB (by rw [hk1, hk2]; simp; omega)
        have k12 : Keep [] H' (H2 ++ [.lst (cutL ds none (some (k : Int)) ++ cutL ds (some ((k : Int) + 1)) none)]) := by rw [← hH2, ← hH1, List.append_assoc, List.append_assoc]; exact .app
        refine ws_ifE t0 (ws_ifE t1 (ws_ifE t2 ?_))
        refine ws_bSeq.mpr ?_
        rw [ws_sAsg]
        refine we_of (eOp_of c1 c2 ec) ?_
        rw [onR_val, asO_gNm, onFl_nx, ws_bNil, onFl_nx, ws_bNil, onFl_nx, ws_bNil, onFl_nx, ws_bNil, onTurn_nx]
        refine ⟨s, ex, H2.length, cutL ds none (some (k : Int)) ++ cutL ds (some ((k : Int) + 1)) none, _, _, rfl, p1, p2, p3, by simp, fun d hd => ?_, by rw [hk1, hk2, List.length_append, List.length_take, List.length_drop]; omega⟩
        rcases List.mem_append.mp hd with hd | hd
        · exact (p5 d (mem_cutL hd)).mono k12
        · exact (p5 d (mem_cutL hd)).mono k12
      · have hn := words_ne "capacity" (by simp)
        have t0 : tB (eOp (dEqv false) (eOp dIx (eVar 7) (eC (.int 0))) (eC (.str "stages"))) [some (.ref b), some s, some (.int u), some (.ref r), some (.bl ky), some ex, some (.int i), some (dueD (some (.str "capacity", .non)))] H' = some (.val false, H') := tb_of (eOp_of x0 rfl (by rw [eq_str n2 n5, decide_eq_false hn.1]))
        have t1 : tB (eOp (dEqv false) (eOp dIx (eVar 7) (eC (.int 0))) (eC (.str "circle"))) [some (.ref b), some s, some (.int u), some (.ref r), some (.bl ky), some ex, some (.int i), some (dueD (some (.str "capacity", .non)))] H' = some (.val false, H') := tb_of (eOp_of x0 rfl (by rw [eq_str n2 n7, decide_eq_false hn.2]))
        have t2 : tB (eOp (dIs false) (eOp dIx (eVar 7) (eC (.int 1))) (eC .non)) [some (.ref b), some s, some (.int u), some (.ref r), some (.bl ky), some ex, some (.int i), some (dueD (some (.str "capacity", .non)))] H' = some (.val true, H') := tb_of (eOp_of x1 rfl rfl)
        refine ws_ifE t0 (ws_ifE t1 (ws_ifY t2 ?_))
        refine ws_bSeq.mpr ?_
        rw [ws_sAsg]
        refine we_of (r := .val (.int 2)) (G := H') rfl ?_
        rw [onR_val, asO_gNm, onFl_nx, ws_bNil, onFl_nx, ws_bNil, onFl_nx, ws_bNil, onFl_nx, ws_bNil, onTurn_nx]
        refine ⟨s, .int 2, r, ds, _, _, rfl, p1, trivial, fun hz => ?_, p4, p5, p6⟩
        rw [p3 hz] at hg
        exact nomatch hg
      · have t0 : tB (eOp (dEqv false) (eOp dIx (eVar 7) (eC (.int 0))) (eC (.str "stages"))) [some (.ref b), some s, some (.int u), some (.ref r), some (.bl ky), some ex, some (.int i), some (dueD (some (.str "circle", .non)))] H' = some (.val false, H') := tb_of (eOp_of x0 rfl (by rw [eq_str n7 n5, decide_eq_false circle_stages]))
        have t1 : tB (eOp (dEqv false) (eOp dIx (eVar 7) (eC (.int 0))) (eC (.str "circle"))) [some (.ref b), some s, some (.int u), some (.ref r), some (.bl ky), some ex, some (.int i), some (dueD (some (.str "circle", .non)))] H' = some (.val true, H') := tb_of (eOp_of x0 rfl (by rw [eq_str n7 n7, decide_eq_true rfl]))
        have c1 := cut_of (gs := [some (.ref b), some s, some (.int u), some (.ref r), some (.bl ky), some ex, some (.int i), some (dueD (some (.str "circle", .non)))]) (i := 3) (f1 := oNone) (f2 := oSome (eUn dNeg (eC (.int 1)))) (a := none) (b := some (-1)) rfl p4 rfl (oSome_of rfl)
        refine ws_ifE t0 (ws_ifY t1 ?_)
        refine ws_bSeq.mpr ?_
        rw [ws_sAsg]
        refine we_of c1 ?_
        rw [onR_val, asO_gNm, onFl_nx, ws_bNil, onFl_nx, ws_bNil, onFl_nx, ws_bNil, onTurn_nx]
        exact ⟨s, ex, H'.length, cutL ds none (some (-1)), _, _, rfl, p1, p2, p3, by simp, fun d hd => (p5 d (mem_cutL hd)).mono .app, Nat.le_trans len_cutL p6⟩
  · rintro gs H ⟨s, ex, r, ds, o6, o7, rfl, p1, p2, p3, p4, p5, p6⟩
    rw [onFl_nx]
    refine ws_retE (we_of (r := .val (.bl true)) (G := H) rfl ?_)
    rw [onR_val]
    exact fin rfl (gs := [])
end
end FI.K00
set_option maxRecDepth 100000
set_option maxHeartbeats 4000000
namespace FI.K00
open PySem L2 PySem.Spec PyProof.Rows FI
theorem askE {fs fg : SE} {gs : Sg} {G : Hh} {s : D} {r : Nat} {ds : List D} (h1 : fs gs G = some (.val s, G)) (h2 : fg gs G = some (.val (.ref r), G)) (hr : G[r]? = some (.lst ds)) (hs : CapD s) (hg : ∀ d ∈ ds, GivD G d) (hl : LenK false ds.length) : eCall F__law_answered (aCons fs (aCons fg (aCons (eC (.int 1)) (aCons (eC (.bl false)) (aCons (eCall F__law_fault (aCons fs (aCons fg (aCons (eC (.int 1)) aNil)))) aNil))))) gs G = some (.val (.bl true), G) := by
  have hll : ds.length ≤ 1000 := by unfold LenK at hl; omega
  have ef := law_fault_ok (ex := .int 1) hr hs trivial hg hll
  have ea := answered_ok (k := false) (ex := .int 1) hr hs trivial (fun _ => rfl) hg hl
  exact call_of (fa_cons h1 (fa_cons h2 (fa_cons rfl (fa_cons rfl (fa_cons (call_of (fa_cons h1 (fa_cons h2 (fa_cons rfl fa_nil))) ef) fa_nil))))) ea
def Tn (c : Nat) : Nat → Nat
  | 0 => 0
  | a + 1 => Tn c a + (c - 1 - a)
theorem Tn_big : ∀ c : Fin 41, 16 ≤ c.val → 120 ≤ Tn c.val c.val := by decide
theorem pairs_ok {c : Nat} {G : Hh} (h1 : 16 ≤ c) (h2 : c ≤ 40) : ∃ ps : List (Int × Int), F__law_pairs [.int c] G = some (.val (.ref G.length), G ++ [.lst (ps.map pT)]) ∧ (ps.length = 120 ∨ ps.length = 121) := by
  suffices key : we (F__law_pairs [.int c] G) fun r G' => ∃ ps : List (Int × Int), r = .val (.ref G.length) ∧ G' = G ++ [.lst (ps.map pT)] ∧ (ps.length = 120 ∨ ps.length = 121) by
    obtain ⟨r, G', e, ps, rfl, rfl, h⟩ := key
    exact ⟨ps, e, h⟩
  refine we_fn rfl ?_
  unfold b__law_pairs
  refine ws_cut (fun gs G' => gs = [some (.int c), some (.ref G.length), none, none] ∧ G' = G ++ [.lst (([] : List (Int × Int)).map pT)]) (by simp [start0, N__law_pairs, we_eVar]) ?_
  rintro gs0 G0 ⟨rfl, rfl⟩
  have gL : ∀ ps : List (Int × Int), (G ++ [O.lst (ps.map pT)])[G.length]? = some (.lst (ps.map pT)) := fun ps => by simp
  refine ws_cut (fun gs G' => ∃ (ps : List (Int × Int)) (o2 o3 : Option D), gs = [some (.int c), some (.ref G.length), o2, o3] ∧ G' = G ++ [.lst (ps.map pT)] ∧ ps.length = min 121 (Tn c c)) ?_ ?_
  · refine ws_sFor (wRng1_eq (j := (c : Int)) (G1 := G ++ [.lst (([] : List (Int × Int)).map pT)]) (fa_cons (var_of rfl) fa_nil) (by omega)) (fun i gs G' => ∃ (ps : List (Int × Int)) (o2 o3 : Option D), gs = [some (.int c), some (.ref G.length), o2, o3] ∧ G' = G ++ [.lst (ps.map pT)] ∧ ps.length = min 121 (Tn c i)) ⟨[], none, none, rfl, rfl, rfl⟩ (fun _ _ _ _ _ => trivial) ?_ ?_
    · rintro i hi gs G' ⟨ps, o2, o3, rfl, rfl, hp⟩
      rw [rngD_get hi]
      simp only [Int.zero_add]
      rw [asO_gNm]
      rw [rngD_length] at hi
      rw [ws_bSeq]
      refine ws_sFor (wRng2_eq (i := (i : Int) + 1) (j := (c : Int)) (G1 := G ++ [.lst (ps.map pT)]) (fa_cons (eOp_of (var_of rfl) rfl (we_eq (by simp))) (fa_cons (var_of rfl) fa_nil)) (by omega) (by omega)) (fun j gs G' => ∃ (ps : List (Int × Int)) (o3 : Option D), gs = [some (.int c), some (.ref G.length), some (.int i), o3] ∧ G' = G ++ [.lst (ps.map pT)] ∧ ps.length = min 121 (Tn c i + j)) ⟨ps, o3, rfl, rfl, hp⟩ (fun _ _ _ _ _ => trivial) ?_ ?_
      · rintro j hj gs G' ⟨ps, o3, rfl, rfl, hp⟩
        rw [rngD_get hj, asO_gNm]
        have hlen : eArgs (d1 bLen) (aCons (eVar 1) aNil) [some (.int c), some (.ref G.length), some (.int i), some (.int ((i : Int) + 1 + j))] (G ++ [O.lst (ps.map pT)]) = some (.val (.int ps.length), G ++ [O.lst (ps.map pT)]) := eArgs_of (ds := [.ref G.length]) (fa_cons (var_of rfl) fa_nil) (we_eq (by simp [gL ps]))
        have ht : tB (eOp dLtA (eArgs (d1 bLen) (aCons (eVar 1) aNil)) (eC (.int 121))) [some (.int c), some (.ref G.length), some (.int i), some (.int ((i : Int) + 1 + j))] (G ++ [O.lst (ps.map pT)]) = some (.val (decide (ps.length < 121)), G ++ [O.lst (ps.map pT)]) := tb_of (eOp_of (G2 := G ++ [O.lst (ps.map pT)]) hlen rfl (we_eq (by simp; omega)))
        by_cases h121 : ps.length < 121
        · rw [decide_eq_true h121] at ht
          refine ws_ifY ht ?_
          refine app_stmt (n := G.length) (G1 := G ++ [O.lst (ps.map pT)]) (xs := ps.map pT) (d := pT ((i : Int), (i : Int) + 1 + j)) rfl (gL ps) (eArgs_of (fa_cons (var_of rfl) (fa_cons (var_of rfl) fa_nil)) rfl) (gL ps) (by rw [List.length_map]; omega) ?_
          rw [ws_bNil, onFl_nx, ws_bNil, onTurn_nx]
          refine ⟨ps ++ [((i : Int), (i : Int) + 1 + j)], _, rfl, ?_, by rw [List.length_append, List.length_singleton]; omega⟩
          rw [List.set_append_right _ _ (Nat.le_refl _), Nat.sub_self, List.map_append]
          rfl
        · rw [decide_eq_false h121] at ht
          refine ws_ifN ht ?_
          rw [ws_bNil, onTurn_nx]
          exact ⟨ps, _, rfl, rfl, by omega⟩
      · rintro gs G' ⟨ps, o3, rfl, rfl, hp⟩
        rw [rngD_length] at hp
        rw [onFl_nx, ws_bNil, onTurn_nx]
        refine ⟨ps, _, _, rfl, rfl, ?_⟩
        rw [hp]
        show min 121 (Tn c i + _) = min 121 (Tn c i + (c - 1 - i))
        congr 2
        omega
    · rintro gs G' ⟨ps, o2, o3, rfl, rfl, hp⟩
      rw [rngD_length] at hp
      exact ⟨rfl, ps, o2, o3, rfl, rfl, by rw [hp]; rfl⟩
  rintro gs0 G1 ⟨ps, o2, o3, rfl, rfl, hp⟩
  have hT := Tn_big ⟨c, by omega⟩ h1
  dsimp only at hT
  refine ws_retE (we_of (r := .val (.ref G.length)) (G := G ++ [.lst (ps.map pT)]) (var_of rfl) ?_)
  rw [onR_val]
  show we (slim G _) _
  have hbw : O.bw G.length (.lst (ps.map pT)) = true := by
    have : ∀ l : List (Int × Int), D.bwL G.length (l.map pT) = true := fun l => by
      induction l with
      | nil => rfl
      | cons x l ih =>
        show (true && D.bwL G.length (l.map pT)) = true
        rw [ih]
        rfl
    exact this ps
  rw [slim_new (o := .lst (ps.map pT)) .app (Nat.le_refl _) (by simp) hbw, List.take_left' rfl]
  exact (we_some _ _).mpr ⟨ps, rfl, rfl, by omega⟩
def AllT (ds : List D) : Prop := ∀ d ∈ ds, ∃ xs, d = .tup xs ∧ (∀ x ∈ xs, CapD x) ∧ xs.length ≤ 4
theorem AllT.giv {ds : List D} (h : AllT ds) {G : Hh} : ∀ d ∈ ds, GivD G d := fun d hd => by
  obtain ⟨xs, rfl, h1, h2⟩ := h d hd
  exact ⟨h1, h2⟩
theorem AllT.snoc {ds : List D} (h : AllT ds) {xs : List D} (h1 : ∀ x ∈ xs, CapD x) (h2 : xs.length ≤ 4) : AllT (ds ++ [.tup xs]) := fun d hd => by
  rcases List.mem_append.mp hd with hd | hd
  · exact h d hd
  · exact ⟨xs, List.mem_singleton.mp hd, h1, h2⟩
theorem ix_any {G : Hh} {r : Nat} {ds : List D} {p : Int} (hr : G[r]? = some (.lst ds)) (h0 : -1 ≤ p) (h1 : p < ds.length) (h2 : 1 ≤ ds.length) : ∃ d ∈ ds, dIx (.ref r) (.int p) G = some (.val d, G) := by
  by_cases hp : 0 ≤ p
  · obtain ⟨p, rfl⟩ : ∃ t : Nat, p = t := ⟨p.toNat, by omega⟩
    exact ⟨ds[p]'(by omega), List.getElem_mem _, (seq_ref hr).ix p (by omega)⟩
  · have hp1 : p = -1 := by omega
    subst hp1
    have hi : ixN ds.length (-1) = some (ds.length - 1) := by
      unfold ixN
      rw [if_neg (by omega), if_pos (by omega)]
      congr 1
      omega
    refine ⟨ds[ds.length - 1]'(by omega), List.getElem_mem _, we_eq ?_⟩
    rw [we_ixR, hr, asO_some, ixO_lst]
    unfold atI
    rw [hi]
    show asO ds[ds.length - 1]? _
    rw [List.getElem?_eq_getElem (by omega)]
    exact ⟨rfl, rfl⟩
end FI.K00
set_option maxRecDepth 100000
set_option maxHeartbeats 4000000
namespace FI.K00
open PySem L2 PySem.Spec PyProof.Rows FI
section
variable {b : Nat} {G : Hh}
theorem large_ok (h : BoxS [] b 0 G) : we (F__law_large [.ref b] G) fun r G' => r = .val (.bl true) := by
  have lb := h.lt
  refine we_fn rfl ?_
  unfold b__law_large
  obtain ⟨v, G1, e1, v0, v1, b1, k1⟩ := draw h (by omega) (z := 25) (by omega) (by omega)
  obtain ⟨c, hc⟩ : ∃ c : Nat, 16 + v = c := ⟨(16 + v).toNat, by omega⟩
  refine ws_cut (fun gs G' => gs = [some (.ref b), some (.int c), none, none, none, none, none, none, none, none] ∧ G' = G1) (by simp [start0, N__law_large, we_eVar, e1, hc]) ?_
  rintro gs0 G1' ⟨rfl, rfl⟩
  obtain ⟨w, G2, e2, w0, w1, b2, k2⟩ := draw b1 (by omega) (z := 998) (by omega) (by omega)
  obtain ⟨st, hst⟩ : ∃ st : Int, 1 + w = st := ⟨_, rfl⟩
  refine ws_cut (fun gs G' => gs = [some (.ref b), some (.int c), some (.int st), none, none, none, none, none, none, none] ∧ G' = G2) (by simp [we_eVar, e2, hst]) ?_
  rintro gs0 G2' ⟨rfl, rfl⟩
  obtain ⟨sh, G3, e3, sh0, sh1, b3, k3⟩ := draw b2 (by omega) (z := 3) (by omega) (by omega)
  have b3' : BoxS [] b 0 G3 := b3
  have lb3 := b3'.lt
  refine ws_cut (fun gs G' => gs = [some (.ref b), some (.int c), some (.int st), some (.int sh), none, none, none, none, none, none] ∧ G' = G3) (by simp [we_eVar, e3]) ?_
  rintro gs0 G3' ⟨rfl, rfl⟩
  obtain ⟨L, hL⟩ : ∃ L, G3'.length = L := ⟨_, rfl⟩
  refine ws_cut (fun gs G' => gs = [some (.ref b), some (.int c), some (.int st), some (.int sh), some (.ref L), none, none, none, none, none] ∧ G' = G3' ++ [.lst []]) (by simp [we_eVar, hL]) ?_
  rintro gs0 G4 ⟨rfl, rfl⟩
  obtain ⟨ps, ep, hps⟩ := pairs_ok (c := c) (G := G3' ++ [.lst []]) (by omega) (by omega)
  rw [List.length_append, List.length_singleton, hL, List.append_assoc] at ep
  have gA : ∀ ds : List D, (G3' ++ [O.lst ds, .lst (ps.map pT)])[L]? = some (.lst ds) := fun ds => by rw [← hL]; simp
  have gP : ∀ ds : List D, (G3' ++ [O.lst ds, .lst (ps.map pT)])[L + 1]? = some (.lst (ps.map pT)) := fun ds => by
    rw [← hL, List.getElem?_append_right (by omega), show G3'.length + 1 - G3'.length = 1 from by omega]; rfl
  refine ws_cut (fun gs G' => ∃ (ds : List D) (o5 o6 : Option D), gs = [some (.ref b), some (.int c), some (.int st), some (.int sh), some (.ref L), o5, o6, none, none, none] ∧ G' = G3' ++ [.lst ds, .lst (ps.map pT)] ∧ ds.length = ps.length ∧ AllT ds) ?_ ?_
  · refine ws_sFor (items := ps.map pT) (gd := stays (L + 1) (ps.map pT)) (G1 := G3' ++ [.lst [], .lst (ps.map pT)]) (wSeq_ref (n := L + 1) (call_of (fa_cons (var_of rfl) fa_nil) ep) (gP [])) (fun i gs G' => ∃ (ds : List D) (o5 o6 : Option D), gs = [some (.ref b), some (.int c), some (.int st), some (.int sh), some (.ref L), o5, o6, none, none, none] ∧ G' = G3' ++ [.lst ds, .lst (ps.map pT)] ∧ ds.length = i ∧ AllT ds) ⟨[], none, none, rfl, rfl, rfl, fun d hd => absurd hd (List.not_mem_nil)⟩ ?_ ?_ ?_
    · rintro i gs G' _ ⟨ds, o5, o6, rfl, rfl, -, -⟩
      unfold stays
      exact gP ds
    · rintro i hi gs G' ⟨ds, o5, o6, rfl, rfl, hd, ha⟩
      rw [List.length_map] at hi
      have hi2 : i < 121 := by omega
      rw [List.getElem_map]
      generalize ps[i] = p
      show asO (some (([some (.ref b), some (.int c), some (.int st), some (.int sh), some (.ref L), some (.int p.1), some (.int p.2), none, none, none] : Sg), (G3' ++ [O.lst ds, .lst (ps.map pT)] : Hh))) _
      rw [asO_some]
      dsimp only
      obtain ⟨K, hK⟩ : ∃ K, G3' ++ [O.lst ds, .lst (ps.map pT)] = K := ⟨_, rfl⟩
      have gK : K[L]? = some (.lst ds) := by rw [← hK]; exact gA ds
      have fin : ∀ xs : List D, K.set L (.lst (ds ++ [.tup xs])) = G3' ++ [.lst (ds ++ [.tup xs]), .lst (ps.map pT)] := fun xs => by
        rw [← hK, ← hL, set0']
      rw [hK]
      have hlen : eArgs (d1 bLen) (aCons (eVar 4) aNil) [some (.ref b), some (.int c), some (.int st), some (.int sh), some (.ref L), some (.int p.1), some (.int p.2), none, none, none] K = some (.val (.int i), K) := eArgs_of (ds := [.ref L]) (fa_cons (var_of rfl) fa_nil) (we_eq (by simp [gK, hd]))
      have ht : tB (eOp (dEqv false) (eOp dMod (eArgs (d1 bLen) (aCons (eVar 4) aNil)) (eC (.int 3))) (eVar 3)) [some (.ref b), some (.int c), some (.int st), some (.int sh), some (.ref L), some (.int p.1), some (.int p.2), none, none, none] K = some (.val (decide ((i : Int) % 3 = sh)), K) := tb_of (eOp_of (eOp_of hlen rfl (dMod_int (by omega))) (var_of rfl) (we_eq (by simp)))
      by_cases hm : (i : Int) % 3 = sh
      · rw [decide_eq_true hm] at ht
        refine ws_ifY ht ?_
        refine app_stmt (n := L) (G1 := K) (xs := ds) (d := .tup [.int p.1, .int p.2]) rfl gK (eArgs_of (fa_cons (var_of rfl) (fa_cons (var_of rfl) fa_nil)) rfl) gK (by omega) ?_
        rw [ws_bNil, onFl_nx, ws_bNil, onTurn_nx]
        exact ⟨_, _, _, rfl, fin _, by rw [List.length_append, List.length_singleton, hd], ha.snoc (fun x hx => by simp only [List.mem_cons, List.not_mem_nil, or_false] at hx; rcases hx with rfl | rfl <;> trivial) (by simp)⟩
      · rw [decide_eq_false hm] at ht
        refine ws_ifE ht ?_
        have hmul : eOp dMul (eArgs (d1 bLen) (aCons (eVar 4) aNil)) (eVar 2) [some (.ref b), some (.int c), some (.int st), some (.int sh), some (.ref L), some (.int p.1), some (.int p.2), none, none, none] K = some (.val (.int ((i : Int) * st)), K) := eOp_of hlen (var_of rfl) (dMul_r (i := (i : Int)) (j := st) ⟨by omega, by omega⟩)
        have hval : eOp dAdd (eC (.int 1)) (eOp dMod (eArgs (d1 bInt) (aCons (eOp dMul (eArgs (d1 bLen) (aCons (eVar 4) aNil)) (eVar 2)) aNil)) (eC (.int 999))) [some (.ref b), some (.int c), some (.int st), some (.int sh), some (.ref L), some (.int p.1), some (.int p.2), none, none, none] K = some (.val (.int (1 + (i : Int) * st % 999)), K) := eOp_of (d := .int 1) rfl (eOp_of (eArgs_of (ds := [.int ((i : Int) * st)]) (r := some (.val (.int ((i : Int) * st)), K)) (fa_cons hmul fa_nil) (we_eq (by simp))) rfl (dMod_int (by omega))) (we_eq (by simp))
        refine app_stmt (n := L) (G1 := K) (xs := ds) (d := .tup [.int p.1, .int p.2, .int (1 + (i : Int) * st % 999)]) rfl gK (eArgs_of (fa_cons (var_of rfl) (fa_cons (var_of rfl) (fa_cons hval fa_nil))) rfl) gK (by omega) ?_
        rw [ws_bNil, onFl_nx, ws_bNil, onTurn_nx]
        exact ⟨_, _, _, rfl, fin _, by rw [List.length_append, List.length_singleton, hd], ha.snoc (fun x hx => by simp only [List.mem_cons, List.not_mem_nil, or_false] at hx; rcases hx with rfl | rfl | rfl <;> trivial) (by simp)⟩
    · rintro gs G' ⟨ds, o5, o6, rfl, rfl, hd, ha⟩
      exact ⟨rfl, ds, o5, o6, rfl, rfl, by rw [hd, List.length_map], ha⟩
  rintro gs0 G5 ⟨ds, o5, o6, rfl, rfl, hd, ha⟩
  obtain ⟨K, hK⟩ : ∃ K, G3' ++ [O.lst ds, .lst (ps.map pT)] = K := ⟨_, rfl⟩
  have gK : K[L]? = some (.lst ds) := by rw [← hK]; exact gA ds
  have bK : BoxS [] b 0 K := by rw [← hK]; exact BoxS.keep (c := 0) b3' .app
  rw [hK]
  refine ws_cut (fun gs H => ∃ (Lg : Nat) (ds' : List D), gs = [some (.ref b), some (.int c), some (.int st), some (.int sh), some (.ref Lg), o5, o6, none, none, none] ∧ H[Lg]? = some (.lst ds') ∧ ds'.length = ds.length ∧ AllT ds' ∧ BoxS [] b 0 H ∧ Lg ≠ b) ?_ ?_
  · obtain ⟨u, H, e4, u0, u1, b4, k4⟩ := draw bK (by omega) (z := 2) (by omega) (by omega)
    have gH := k4.get gK (show L ∉ [b] by simp; omega)
    rw [ws_sIf]
    refine we_of (r := .val (decide (u = 1))) (G := H) (tb_of (eOp_of (call_of (fa_cons (var_of rfl) (fa_cons rfl fa_nil)) e4) rfl (we_eq (by simp)))) ?_
    rw [onR_val]
    by_cases hu : u = 1
    · rw [decide_eq_true hu, if_pos rfl]
      have er : dRevL (.ref L) H = some (.val (.ref H.length), H ++ [.lst ds.reverse]) := by
        unfold dRevL
        dsimp only
        rw [gH]
      refine ws_bSeq.mpr ?_
      rw [ws_sAsg]
      refine we_of (eUn_of (var_of rfl) er) ?_
      rw [onR_val, asO_gNm, onFl_nx, ws_bNil]
      exact ⟨rfl, _, ds.reverse, rfl, by simp, by simp, fun d hd => ha d (List.mem_reverse.mp hd), BoxS.keep (c := 0) b4 .app, by have := b4.lt; omega⟩
    · rw [decide_eq_false hu, if_neg Bool.false_ne_true, ws_bNil]
      exact ⟨rfl, L, ds, rfl, gH, rfl, ha, b4, by omega⟩
  rintro gs0 H ⟨Lg, ds', rfl, gL, hd', ha', bH, hLb⟩
  refine ws_cut (fun gs H => ∃ ds' : List D, gs = [some (.ref b), some (.int c), some (.int st), some (.int sh), some (.ref Lg), o5, o6, none, none, none] ∧ H[Lg]? = some (.lst ds') ∧ ds'.length = 121 ∧ AllT ds' ∧ BoxS [] b 0 H) ?_ ?_
  · have hlen : eArgs (d1 bLen) (aCons (eVar 4) aNil) [some (.ref b), some (.int c), some (.int st), some (.int sh), some (.ref Lg), o5, o6, none, none, none] H = some (.val (.int ds'.length), H) := eArgs_of (ds := [.ref Lg]) (fa_cons (var_of rfl) fa_nil) (we_eq (by simp [gL]))
    have ht : tB (eOp dLtA (eArgs (d1 bLen) (aCons (eVar 4) aNil)) (eC (.int 121))) [some (.ref b), some (.int c), some (.int st), some (.int sh), some (.ref Lg), o5, o6, none, none, none] H = some (.val (decide (ds'.length < 121)), H) := tb_of (eOp_of hlen rfl (we_eq (by simp; omega)))
    rw [ws_sIf]
    refine we_of ht ?_
    rw [onR_val]
    by_cases h121 : ds'.length < 121
    · rw [decide_eq_true h121, if_pos rfl]
      refine app_stmt (n := Lg) (G1 := H) (xs := ds') (d := .tup [.int 1, .int 0]) rfl gL rfl gL (by omega) ?_
      rw [ws_bNil]
      exact ⟨rfl, _, rfl, List.getElem?_set_self (List.getElem?_eq_some_iff.mp gL).1, by rw [List.length_append, List.length_singleton]; omega, ha'.snoc (fun x hx => by simp only [List.mem_cons, List.not_mem_nil, or_false] at hx; rcases hx with rfl | rfl <;> trivial) (by simp), bH.keepW (W := [Lg]) Keep.setN (by simpa using Ne.symm hLb)⟩
    · rw [decide_eq_false h121, if_neg Bool.false_ne_true, ws_bNil]
      exact ⟨rfl, ds', rfl, gL, by omega, ha', bH⟩
  rintro gs0 H ⟨ds', rfl, gL, hd', ha', bH⟩
  have cutm : ∀ ds : List D, ds.length = 121 → (cutL ds none (some 120)).length = 120 := fun ds h => by
    rw [cut_head (by omega) (by omega), List.length_take]
    omega
  obtain ⟨fw, hfw⟩ : ∃ fw, cutL ds' none (some 120) = fw := ⟨_, rfl⟩
  have fl : fw.length = 120 := by rw [← hfw]; exact cutm ds' hd'
  have fa : AllT fw := fun d hd => ha' d (mem_cutL (by rw [hfw]; exact hd))
  have c1 := cut_of (gs := [some (.ref b), some (.int c), some (.int st), some (.int sh), some (.ref Lg), o5, o6, none, none, none]) (i := 4) (f1 := oNone) (f2 := oSome (eC (.int 120))) (a := none) (b := some 120) rfl gL rfl rfl
  rw [hfw] at c1
  obtain ⟨H1, hH1⟩ : ∃ H1, H ++ [O.lst fw] = H1 := ⟨_, rfl⟩
  rw [hH1] at c1
  have bH1 : BoxS [] b 0 H1 := by rw [← hH1]; exact BoxS.keep (c := 0) bH .app
  have gF : H1[H.length]? = some (.lst fw) := by rw [← hH1]; simp
  have gL1 : H1[Lg]? = some (.lst ds') := by rw [← hH1, List.getElem?_append_left (List.getElem?_eq_some_iff.mp gL).1]; exact gL
  have lLg := (List.getElem?_eq_some_iff.mp gL).1
  have lbH := bH.lt
  refine ws_cut (fun gs G' => gs = [some (.ref b), some (.int c), some (.int st), some (.int sh), some (.ref Lg), o5, o6, some (.ref H.length), none, none] ∧ G' = H1) (by rw [ws_sAsg]; exact we_of c1 (by rw [onR_val, asO_gNm]; exact ⟨rfl, rfl, rfl⟩)) ?_
  rintro gs0 H1' ⟨rfl, rfl⟩
  have ask1 := askE (fs := eVar 1) (fg := eVar 7) (gs := [some (.ref b), some (.int c), some (.int st), some (.int sh), some (.ref Lg), o5, o6, some (.ref H.length), none, none]) (var_of rfl) (var_of rfl) gF (s := .int c) trivial fa.giv (.inr ⟨rfl, .inr (.inl fl)⟩)
  refine ws_ifN (G1 := H1') (tn_of (b := true) (tb_of ask1)) ?_
  obtain ⟨p, H2, e5, p0, p1, b5, k5⟩ := draw bH1 (by omega) (z := 120) (by omega) (by omega)
  refine ws_cut (fun gs G' => gs = [some (.ref b), some (.int c), some (.int st), some (.int sh), some (.ref Lg), o5, o6, some (.ref H.length), some (.int p), none] ∧ G' = H2) (by rw [ws_sAsg]; exact we_of (call_of (fa_cons (var_of rfl) (fa_cons rfl fa_nil)) e5) (by rw [onR_val, asO_gNm]; exact ⟨rfl, rfl, rfl⟩)) ?_
  rintro gs0 H2' ⟨rfl, rfl⟩
  obtain ⟨y, H3, e6, y0, y1, b6, k6⟩ := draw b5 (by omega) (z := 6) (by omega) (by omega)
  have b6' : BoxS [] b 0 H3 := b6
  refine ws_cut (fun gs G' => gs = [some (.ref b), some (.int c), some (.int st), some (.int sh), some (.ref Lg), o5, o6, some (.ref H.length), some (.int p), some (.int y)] ∧ G' = H3) (by rw [ws_sAsg]; exact we_of (call_of (fa_cons (var_of rfl) (fa_cons rfl fa_nil)) e6) (by rw [onR_val, asO_gNm]; exact ⟨rfl, rfl, rfl⟩)) ?_
  rintro gs0 H3' ⟨rfl, rfl⟩
  have k13 : Keep [b] H1' H3' := k5.trans k6
  have gF3 := k13.get gF (show H.length ∉ [b] by simp; omega)
  have gL3 := k13.get gL1 (show Lg ∉ [b] by simpa using hLb)
  obtain ⟨dq, hdq, edq⟩ := ix_any (p := p - 1) gF3 (by omega) (by omega) (by omega)
  obtain ⟨K3, hK3⟩ : ∃ K, H3' ++ [O.lst [.int 1, .int 2]] = K := ⟨_, rfl⟩
  obtain ⟨ts, hts⟩ : ∃ ts, [D.tup [.int 3, .int 3], .tup [.int 0, .int 1, .int 1000], dq, .tup [.int 15, .int 0, .int 4], .tup [.int 1, .int 0], .ref H3'.length] = ts := ⟨_, rfl⟩
  have tl : ts.length = 6 := by rw [← hts]; rfl
  have e7 : eArgs dLst (aCons (eArgs dTup (aCons (eC (.int 3)) (aCons (eC (.int 3)) aNil))) (aCons (eArgs dTup (aCons (eC (.int 0)) (aCons (eC (.int 1)) (aCons (eC (.int 1000)) aNil)))) (aCons (eOp dIx (eVar 7) (eOp dSub (eVar 8) (eC (.int 1)))) (aCons (eArgs dTup (aCons (eC (.int 15)) (aCons (eC (.int 0)) (aCons (eC (.int 4)) aNil)))) (aCons (eArgs dTup (aCons (eC (.int 1)) (aCons (eC (.int 0)) aNil))) (aCons (eArgs dLst (aCons (eC (.int 1)) (aCons (eC (.int 2)) aNil))) aNil)))))) [some (.ref b), some (.int c), some (.int st), some (.int sh), some (.ref Lg), o5, o6, some (.ref H.length), some (.int p), some (.int y)] H3' = some (.val (.ref K3.length), K3 ++ [.lst ts]) := by
    have hl : dLst ts K3 = some (.val (.ref K3.length), K3 ++ [.lst ts]) := by rw [← hts]; rfl
    refine eArgs_of (ds := ts) (G1 := K3) ?_ hl
    rw [← hts]
    refine fa_consG rfl (fa_consG rfl (fa_consG (d := dq) (G1 := H3') ?_ (fa_consG rfl (fa_consG rfl (fa_consG (d := .ref H3'.length) (G1 := K3) ?_ fa_nil)))))
    · exact eOp_of (var_of rfl) (eOp_of (var_of rfl) rfl (we_eq (by simp))) edq
    · rw [← hK3]; rfl
  obtain ⟨y, rfl⟩ : ∃ n : Nat, y = n := ⟨y.toNat, by omega⟩
  have gT : (K3 ++ [O.lst ts])[K3.length]? = some (.lst ts) := by simp
  have ey := (seq_ref gT).ix y (by omega)
  obtain ⟨K4, hK4⟩ : ∃ K, K3 ++ [O.lst ts] = K := ⟨_, rfl⟩
  rw [hK4] at e7 ey
  have k34 : Keep [] H3' K4 := by rw [← hK4, ← hK3, List.append_assoc]; exact .app
  have gR4 : K4[H3'.length]? = some (.lst [.int 1, .int 2]) := by rw [← hK4, ← hK3, List.append_assoc]; simp
  have gL4 := k34.get gL3 (List.not_mem_nil)
  have lL4 := (List.getElem?_eq_some_iff.mp gL4).1
  have lL3 := (List.getElem?_eq_some_iff.mp gL3).1
  obtain ⟨p, rfl⟩ : ∃ n : Nat, p = n := ⟨p.toNat, by omega⟩
  have hty : ts[y]'(by omega) ∈ ts := List.getElem_mem _
  obtain ⟨nd, hnd⟩ : ∃ nd, ts[y]'(by omega) = nd := ⟨_, rfl⟩
  rw [hnd] at ey hty
  obtain ⟨K5, hK5⟩ : ∃ K, K4.set Lg (.lst (ds'.set p nd)) = K := ⟨_, rfl⟩
  refine ws_cut (fun gs G' => gs = [some (.ref b), some (.int c), some (.int st), some (.int sh), some (.ref Lg), o5, o6, some (.ref H.length), some (.int p), some (.int y)] ∧ G' = K5) ?_ ?_
  · rw [ws_sAsg]
    refine we_of (eOp_of e7 (var_of rfl) ey) ?_
    rw [onR_val, gSb_of (var_of rfl) (var_of rfl) (put_at (k := p) gL4 (by omega)), asO_some, hK5]
    exact ⟨rfl, rfl, rfl⟩
  rintro gs0 K5' ⟨rfl, rfl⟩
  have gL5 : K5'[Lg]? = some (.lst (ds'.set p nd)) := by rw [← hK5]; exact List.getElem?_set_self lL4
  have b5' : BoxS [] b 0 K5' := by
    rw [← hK5]
    exact (BoxS.keep (c := 0) b6' k34).keepW (W := [Lg]) Keep.setN (by simpa using Ne.symm hLb)
  have gR5 : K5'[H3'.length]? = some (.lst [.int 1, .int 2]) := by rw [← hK5, List.getElem?_set_ne (by omega)]; exact gR4
  have hgv : ∀ d ∈ ds'.set p nd, GivD K5' d := fun d hd => by
    rcases List.mem_or_eq_of_mem_set hd with hd | rfl
    · exact ha'.giv d hd
    · rw [← hts] at hty
      simp only [List.mem_cons, List.not_mem_nil, or_false] at hty
      rcases hty with rfl | rfl | rfl | rfl | rfl | rfl
      · exact ⟨fun x hx => by simp only [List.mem_cons, List.not_mem_nil, or_false] at hx; rcases hx with rfl | rfl <;> trivial, by simp⟩
      · exact ⟨fun x hx => by simp only [List.mem_cons, List.not_mem_nil, or_false] at hx; rcases hx with rfl | rfl | rfl <;> trivial, by simp⟩
      · exact fa.giv _ hdq
      · exact ⟨fun x hx => by simp only [List.mem_cons, List.not_mem_nil, or_false] at hx; rcases hx with rfl | rfl | rfl <;> trivial, by simp⟩
      · exact ⟨fun x hx => by simp only [List.mem_cons, List.not_mem_nil, or_false] at hx; rcases hx with rfl | rfl <;> trivial, by simp⟩
      · exact ⟨_, gR5⟩
  have ln5 : (ds'.set p nd).length = 121 := by rw [List.length_set]; exact hd'
  obtain ⟨es, hes⟩ : ∃ es, ds'.set p nd = es := ⟨_, rfl⟩
  rw [hes] at gL5 hgv ln5
  have c2 := cut_of (gs := [some (.ref b), some (.int c), some (.int st), some (.int sh), some (.ref Lg), o5, o6, some (.ref H.length), some (.int p), some (.int y)]) (i := 4) (f1 := oNone) (f2 := oSome (eC (.int 120))) (a := none) (b := some 120) rfl gL5 rfl rfl
  obtain ⟨K6, hK6⟩ : ∃ K, K5' ++ [O.lst (cutL es none (some 120))] = K := ⟨_, rfl⟩
  rw [hK6] at c2
  have k56 : Keep [] K5' K6 := by rw [← hK6]; exact .app
  have gF6 : K6[K5'.length]? = some (.lst (cutL es none (some 120))) := by rw [← hK6]; simp
  have hgv6 : ∀ d ∈ es, GivD K6 d := fun d hd => (hgv d hd).mono k56
  refine ws_cut (fun gs G' => gs = [some (.ref b), some (.int c), some (.int st), some (.int sh), some (.ref Lg), o5, o6, some (.ref K5'.length), some (.int p), some (.int y)] ∧ G' = K6) (by rw [ws_sAsg]; exact we_of c2 (by rw [onR_val, asO_gNm]; exact ⟨rfl, rfl, rfl⟩)) ?_
  rintro gs0 K6' ⟨rfl, rfl⟩
  have ask2 := askE (fs := eVar 1) (fg := eVar 7) (gs := [some (.ref b), some (.int c), some (.int st), some (.int sh), some (.ref Lg), o5, o6, some (.ref K5'.length), some (.int p), some (.int y)]) (var_of rfl) (var_of rfl) gF6 (s := .int c) trivial (fun d hd => hgv6 d (mem_cutL hd)) (.inr ⟨rfl, .inr (.inl (cutm es ln5))⟩)
  refine ws_ifN (G1 := K6') (tn_of (b := true) (tb_of ask2)) ?_
  have b6'' : BoxS [] b 0 K6' := BoxS.keep (c := 0) b5' k56
  have gL6 := k56.get gL5 (List.not_mem_nil)
  refine ws_cut (fun gs K7 => ∃ s : D, gs = [some (.ref b), some s, some (.int st), some (.int sh), some (.ref Lg), o5, o6, some (.ref K5'.length), some (.int p), some (.int y)] ∧ CapD s ∧ K7[Lg]? = some (.lst es) ∧ ∀ d ∈ es, GivD K7 d) ?_ ?_
  · obtain ⟨u, K7, e8, u0, u1, b8, k8⟩ := draw b6'' (by omega) (z := 3) (by omega) (by omega)
    have b8' : BoxS [] b 0 K7 := b8
    rw [ws_sIf]
    refine we_of (r := .val (decide (u = 0))) (G := K7) (tb_of (eOp_of (call_of (fa_cons (var_of rfl) (fa_cons rfl fa_nil)) e8) rfl (we_eq (by simp)))) ?_
    rw [onR_val]
    by_cases hu : u = 0
    · rw [decide_eq_true hu, if_pos rfl]
      obtain ⟨d, K8, e9, hd9, b9, k9⟩ := pick (gs := [some (.ref b), some (.int c), some (.int st), some (.int sh), some (.ref Lg), o5, o6, some (.ref K5'.length), some (.int p), some (.int y)]) (z := 3) (ds := [.int 0, .int 41, .bl true]) (fe := eArgs dLst (aCons (eC (.int 0)) (aCons (eC (.int 41)) (aCons (eC (.bl true)) aNil)))) b8' rfl rfl (by decide) (by decide) rfl
      have hdc : CapD d := by
        simp only [List.mem_cons, List.not_mem_nil, or_false] at hd9
        rcases hd9 with rfl | rfl | rfl <;> exact trivial
      refine ws_bSeq.mpr ?_
      rw [ws_sAsg]
      refine we_of e9 ?_
      rw [onR_val, asO_gNm, onFl_nx, ws_bNil]
      exact ⟨rfl, d, rfl, hdc, (k8.trans k9).get gL6 (by simpa using hLb), fun x hx => ((hgv6 x hx).draw k8 b8').draw k9 b9⟩
    · rw [decide_eq_false hu, if_neg Bool.false_ne_true, ws_bNil]
      exact ⟨rfl, .int c, rfl, trivial, k8.get gL6 (by simpa using hLb), fun x hx => (hgv6 x hx).draw k8 b8'⟩
  rintro gs0 K7 ⟨s, rfl, hs, gL7, hgv7⟩
  have ask3 := askE (fs := eVar 1) (fg := eVar 4) (gs := [some (.ref b), some s, some (.int st), some (.int sh), some (.ref Lg), o5, o6, some (.ref K5'.length), some (.int p), some (.int y)]) (var_of rfl) (var_of rfl) gL7 hs hgv7 (.inr ⟨rfl, .inr (.inr ln5)⟩)
  refine ws_retE (we_of ask3 ?_)
  rw [onR_val]
  exact slim_bl fun _ => rfl
theorem round_ok (h : BoxS [] b 0 G) : we (F__law_round_trip [.ref b] G) fun r G' => r = .val (.bl true) := by
  have lb := h.lt
  refine we_fn rfl ?_
  unfold b__law_round_trip
  obtain ⟨_, G2, e2, T, tn, rfl, t0, t1, tp, b2, k2⟩ := order_ok (c := 0) h (by omega) (many := 40) (by omega) (by omega)
  have b2' : BoxS [] b 0 G2 := b2
  have ltn : tn.length = 40 := by
    have := tp.length_eq
    rw [rngI_len] at this
    omega
  have hTb : T ≠ b := by omega
  refine ws_cut (fun gs G' => gs = [some (.ref b), some (.ref T), none, none, none, none, none, none, none] ∧ G' = G2) (by simp [start0, N__law_round_trip, we_eVar, e2]) ?_
  rintro gs0 G2' ⟨rfl, rfl⟩
  obtain ⟨w, G3, e3, w0, w1, b3, k3⟩ := draw b2 (by omega) (z := 998) (by omega) (by omega)
  have b3' : BoxS [] b 0 G3 := b3
  obtain ⟨st, hst⟩ : ∃ st : Int, 1 + w = st := ⟨_, rfl⟩
  refine ws_cut (fun gs G' => gs = [some (.ref b), some (.ref T), some (.int st), none, none, none, none, none, none] ∧ G' = G3) (by simp [we_eVar, e3, hst]) ?_
  rintro gs0 G3' ⟨rfl, rfl⟩
  have gT := k3.get t1 (show T ∉ [b] by simpa using hTb)
  have lT := (List.getElem?_eq_some_iff.mp gT).1
  obtain ⟨gv, hgv⟩ : ∃ gv : List D, (rngK 0 39).map (fun x => D.tup [.int (gt tn x), .int (gt tn (x + 1)), .int (1 + x * st % 999)]) = gv := ⟨_, rfl⟩
  have gl : gv.length = 39 := by rw [← hgv, List.length_map, rngK_len]
  have ga : AllT gv := fun d hd => by
    rw [← hgv] at hd
    obtain ⟨x, -, rfl⟩ := List.mem_map.mp hd
    exact ⟨_, rfl, fun z hz => by simp only [List.mem_cons, List.not_mem_nil, or_false] at hz; rcases hz with rfl | rfl | rfl <;> trivial, by simp⟩
  obtain ⟨G4, hG4⟩ : ∃ H, G3' ++ [O.lst gv] = H := ⟨_, rfl⟩
  refine ws_cut (fun gs G' => gs = [some (.ref b), some (.ref T), some (.int st), some (.ref G3'.length), none, none, none, none, none] ∧ G' = G4) ?_ ?_
  · rw [ws_sAsg]
    refine we_lcI (lo := 0) (k := 39) (G1 := G3') (wRng1_eq (j := 39) (fa_cons rfl fa_nil) (by omega)) (by omega) (fun _ => true) (fun x => D.tup [.int (gt tn x), .int (gt tn (x + 1)), .int (1 + x * st % 999)]) ?_ ?_
    · intro x x0 x1 acc
      have gTa : (G3' ++ [O.lst acc])[T]? = some (.lst (tn.map .int)) := by rw [List.getElem?_append_left lT]; exact gT
      have hx0 : dIx (.ref T) (.int x) (G3' ++ [O.lst acc]) = some (.val (.int (gt tn x)), G3' ++ [O.lst acc]) := we_eq (by rw [we_ixR, gTa, asO_some, ixO_lst, gt_at (st := tn) x0 (by omega)]; exact ⟨rfl, rfl⟩)
      have hx1 : dIx (.ref T) (.int (x + 1)) (G3' ++ [O.lst acc]) = some (.val (.int (gt tn (x + 1))), G3' ++ [O.lst acc]) := we_eq (by rw [we_ixR, gTa, asO_some, ixO_lst, gt_at (st := tn) (i := x + 1) (by omega) (by omega)]; exact ⟨rfl, rfl⟩)
      rw [asO_gNm]
      refine ⟨rfl, ?_⟩
      rw [we_tTrue]
      refine ⟨rfl, rfl, fun _ => ?_⟩
      have hmul : eOp dMul (eVar 4) (eVar 2) [some (.ref b), some (.ref T), some (.int st), none, some (.int x), none, none, none, none] (G3' ++ [O.lst acc]) = some (.val (.int (x * st)), G3' ++ [O.lst acc]) := eOp_of (var_of rfl) (var_of rfl) (dMul_r (i := x) (j := st) ⟨by omega, by omega⟩)
      refine eArgs_of (ds := [.int (gt tn x), .int (gt tn (x + 1)), .int (1 + x * st % 999)]) (fa_cons (eOp_of (var_of rfl) (var_of rfl) hx0) (fa_cons (eOp_of (var_of rfl) (eOp_of (var_of rfl) rfl (we_eq (by simp))) hx1) (fa_cons ?_ fa_nil))) rfl
      exact eOp_of (d := .int 1) rfl (eOp_of (eArgs_of (ds := [.int (x * st)]) (r := some (.val (.int (x * st)), G3' ++ [O.lst acc])) (fa_cons hmul fa_nil) (we_eq (by simp))) rfl (dMod_int (by omega))) (we_eq (by simp))
    · rw [List.filter_eq_self.mpr (fun _ _ => rfl), onR_val, asO_gNm]
      exact ⟨rfl, rfl, by rw [hgv, hG4]⟩
  rintro gs0 G4' ⟨rfl, rfl⟩
  have k34 : ∀ {W : List Nat}, Keep W G3' G4' := by rw [← hG4]; exact .app
  have b4 : BoxS [] b 0 G4' := BoxS.keep (c := 0) b3' k34
  have gG4 : G4'[G3'.length]? = some (.lst gv) := by rw [← hG4]; simp
  have lb3 := b3'.lt
  obtain ⟨p, G5, e5, p0, p1, b5, k5⟩ := draw b4 (by omega) (z := 40) (by omega) (by omega)
  obtain ⟨p, rfl⟩ : ∃ n : Nat, p = n := ⟨p.toNat, by omega⟩
  refine ws_cut (fun gs G' => gs = [some (.ref b), some (.ref T), some (.int st), some (.ref G3'.length), none, some (.int p), none, none, none] ∧ G' = G5) (by rw [ws_sAsg]; exact we_of (call_of (fa_cons (var_of rfl) (fa_cons rfl fa_nil)) e5) (by rw [onR_val, asO_gNm]; exact ⟨rfl, rfl, rfl⟩)) ?_
  rintro gs0 G5' ⟨rfl, rfl⟩
  have gT5 := (Keep.trans (k34 (W := [b])) k5).get gT (show T ∉ [b] by simpa using hTb)
  have gG5 := k5.get gG4 (show G3'.length ∉ [b] by simp; omega)
  have z39 := (seq_ref gT5).ix 39 (by rw [List.length_map]; omega)
  have z0 := (seq_ref gT5).ix 0 (by rw [List.length_map]; omega)
  rw [List.getElem_map] at z39 z0
  obtain ⟨x, hx⟩ : ∃ x, tn[39]'(by omega) = x := ⟨_, rfl⟩
  obtain ⟨y, hy⟩ : ∃ y, tn[0]'(by omega) = y := ⟨_, rfl⟩
  rw [hx] at z39
  rw [hy] at z0
  obtain ⟨G6, hG6⟩ : ∃ H, G5' ++ [O.lst [.int x, .int y]] = H := ⟨_, rfl⟩
  refine ws_cut (fun gs G' => gs = [some (.ref b), some (.ref T), some (.int st), some (.ref G3'.length), none, some (.int p), some (.ref G5'.length), none, none] ∧ G' = G6) ?_ ?_
  · rw [ws_sAsg]
    refine we_of (eArgs_of (ds := [.int x, .int y]) (r := some (.val (.ref G5'.length), G6)) (fa_cons (eOp_of (var_of rfl) rfl z39) (fa_cons (eOp_of (var_of rfl) rfl z0) fa_nil)) (by rw [← hG6]; rfl)) ?_
    rw [onR_val, asO_gNm]
    exact ⟨rfl, rfl, rfl⟩
  rintro gs0 G6' ⟨rfl, rfl⟩
  have gE : G6'[G5'.length]? = some (.lst [.int x, .int y]) := by rw [← hG6]; simp
  have gG6 : G6'[G3'.length]? = some (.lst gv) := by rw [← hG6, List.getElem?_append_left (List.getElem?_eq_some_iff.mp gG5).1]; exact gG5
  obtain ⟨G7, hG7⟩ : ∃ H, G6' ++ [O.lst [.tup [.int x, .int y], .tup [.int y, .int x]]] = H := ⟨_, rfl⟩
  have k67 : Keep [] G6' G7 := by rw [← hG7]; exact .app
  have g7 : G7[G6'.length]? = some (.lst [.tup [.int x, .int y], .tup [.int y, .int x]]) := by rw [← hG7]; simp
  have q0 : ∀ gs : Sg, gs[6]? = some (some (.ref G5'.length)) → eOp dIx (eVar 6) (eC (.int 0)) gs G6' = some (.val (.int x), G6') := fun gs h6 => eOp_of (var_of h6) rfl ((seq_ref gE).ix 0 (by simp))
  have q1 : ∀ gs : Sg, gs[6]? = some (some (.ref G5'.length)) → eOp dIx (eVar 6) (eC (.int 1)) gs G6' = some (.val (.int y), G6') := fun gs h6 => eOp_of (var_of h6) rfl ((seq_ref gE).ix 1 (by simp))
  have e7 : eArgs dLst (aCons (eArgs dTup (aCons (eOp dIx (eVar 6) (eC (.int 0))) (aCons (eOp dIx (eVar 6) (eC (.int 1))) aNil))) (aCons (eArgs dTup (aCons (eOp dIx (eVar 6) (eC (.int 1))) (aCons (eOp dIx (eVar 6) (eC (.int 0))) aNil))) aNil)) [some (.ref b), some (.ref T), some (.int st), some (.ref G3'.length), none, some (.int p), some (.ref G5'.length), none, none] G6' = some (.val (.ref G6'.length), G7) := eArgs_of (ds := [.tup [.int x, .int y], .tup [.int y, .int x]]) (fa_cons (eArgs_of (fa_cons (q0 _ rfl) (fa_cons (q1 _ rfl) fa_nil)) rfl) (fa_cons (eArgs_of (fa_cons (q1 _ rfl) (fa_cons (q0 _ rfl) fa_nil)) rfl) fa_nil)) (by rw [← hG7]; rfl)
  have gG7 := k67.get gG6 (List.not_mem_nil)
  refine ws_cut (fun gs G' => True) ?_ ?_
  · refine ws_sFor (items := [.tup [.int x, .int y], .tup [.int y, .int x]]) (gd := stays G6'.length [.tup [.int x, .int y], .tup [.int y, .int x]]) (G1 := G7) (wSeq_ref (n := G6'.length) e7 g7) (fun i gs H => ∃ o7 o8 : Option D, gs = [some (.ref b), some (.ref T), some (.int st), some (.ref G3'.length), none, some (.int p), some (.ref G5'.length), o7, o8] ∧ Keep [] G7 H) ⟨none, none, rfl, .refl⟩ ?_ ?_ ?_
    · rintro i gs H _ ⟨o7, o8, rfl, k⟩
      unfold stays
      exact k.get g7 (List.not_mem_nil)
    · rintro i hi gs H ⟨o7, o8, rfl, k⟩
      have hm : [D.tup [.int x, .int y], .tup [.int y, .int x]][i] ∈ [D.tup [.int x, .int y], .tup [.int y, .int x]] := List.getElem_mem hi
      generalize [D.tup [.int x, .int y], .tup [.int y, .int x]][i] = d at hm
      have hd : ∃ xs, d = .tup xs ∧ (∀ z ∈ xs, CapD z) ∧ xs.length ≤ 4 := by
        simp only [List.mem_cons, List.not_mem_nil, or_false] at hm
        rcases hm with rfl | rfl
        · exact ⟨_, rfl, fun z hz => by simp only [List.mem_cons, List.not_mem_nil, or_false] at hz; rcases hz with rfl | rfl <;> trivial, by simp⟩
        · exact ⟨_, rfl, fun z hz => by simp only [List.mem_cons, List.not_mem_nil, or_false] at hz; rcases hz with rfl | rfl <;> trivial, by simp⟩
      rw [asO_gNm]
      have gH := k.get gG7 (List.not_mem_nil)
      have c1 := cut_of (gs := [some (.ref b), some (.ref T), some (.int st), some (.ref G3'.length), none, some (.int p), some (.ref G5'.length), some d, o8]) (i := 3) (f1 := oNone) (f2 := oSome (eVar 5)) (a := none) (b := some (p : Int)) rfl gH rfl (oSome_of (var_of rfl))
      rw [cut_head (by omega) (by omega), show ((p : Int)).toNat = p from rfl] at c1
      obtain ⟨H1, hH1⟩ : ∃ H1, H ++ [O.lst (gv.take p)] = H1 := ⟨_, rfl⟩
      rw [hH1] at c1
      have k1 : Keep [] H H1 := by rw [← hH1]; exact .app
      have gA : H1[H.length]? = some (.lst (gv.take p)) := by rw [← hH1]; simp
      obtain ⟨H2, hH2⟩ : ∃ H2, H1 ++ [O.lst [d]] = H2 := ⟨_, rfl⟩
      have k2 : Keep [] H1 H2 := by rw [← hH2]; exact .app
      have gB : H2[H1.length]? = some (.lst [d]) := by rw [← hH2]; simp
      have cc1 := cat_lst (k2.get gA (List.not_mem_nil)) gB (by simp; omega)
      obtain ⟨H3, hH3⟩ : ∃ H3, H2 ++ [O.lst (gv.take p ++ [d])] = H3 := ⟨_, rfl⟩
      rw [hH3] at cc1
      have k3 : Keep [] H2 H3 := by rw [← hH3]; exact .app
      have gC : H3[H2.length]? = some (.lst (gv.take p ++ [d])) := by rw [← hH3]; simp
      have gH3 := ((k1.trans k2).trans k3).get gH (List.not_mem_nil)
      have c2 := cut_of (gs := [some (.ref b), some (.ref T), some (.int st), some (.ref G3'.length), none, some (.int p), some (.ref G5'.length), some d, o8]) (G := H3) (i := 3) (f1 := oSome (eVar 5)) (f2 := oNone) (a := some (p : Int)) (b := none) rfl gH3 (oSome_of (var_of rfl)) rfl
      rw [cut_tail (by omega) (by omega), show ((p : Int)).toNat = p from rfl] at c2
      obtain ⟨H4, hH4⟩ : ∃ H4, H3 ++ [O.lst (gv.drop p)] = H4 := ⟨_, rfl⟩
      rw [hH4] at c2
      have k4 : Keep [] H3 H4 := by rw [← hH4]; exact .app
      have gD : H4[H3.length]? = some (.lst (gv.drop p)) := by rw [← hH4]; simp
      have cc2 := cat_lst (k4.get gC (List.not_mem_nil)) gD (by simp; omega)
      obtain ⟨row, hrow⟩ : ∃ row, gv.take p ++ [d] ++ gv.drop p = row := ⟨_, rfl⟩
      rw [hrow] at cc2
      have rl : row.length = 40 := by
        rw [← hrow, List.length_append, List.length_append, List.length_take, List.length_drop, List.length_singleton]
        omega
      have ra : AllT row := fun e he => by
        rw [← hrow] at he
        rcases List.mem_append.mp he with he | he
        · rcases List.mem_append.mp he with he | he
          · exact ga e (List.mem_of_mem_take he)
          · rw [List.mem_singleton.mp he]; exact hd
        · exact ga e (List.mem_of_mem_drop he)
      obtain ⟨H5, hH5⟩ : ∃ H5, H4 ++ [O.lst row] = H5 := ⟨_, rfl⟩
      rw [hH5] at cc2
      have k5 : Keep [] H4 H5 := by rw [← hH5]; exact .app
      have gE5 : H5[H4.length]? = some (.lst row) := by rw [← hH5]; simp
      have el : eArgs dLst (aCons (eVar 7) aNil) [some (.ref b), some (.ref T), some (.int st), some (.ref G3'.length), none, some (.int p), some (.ref G5'.length), some d, o8] H1 = some (.val (.ref H1.length), H2) := eArgs_of (ds := [d]) (fa_cons (var_of rfl) fa_nil) (by rw [← hH2]; rfl)
      refine ws_cut (fun gs G' => gs = [some (.ref b), some (.ref T), some (.int st), some (.ref G3'.length), none, some (.int p), some (.ref G5'.length), some d, some (.ref H4.length)] ∧ G' = H5) (by rw [ws_sAsg]; exact we_of (eOp_of (eOp_of c1 el cc1) c2 cc2) (by rw [onR_val, asO_gNm]; exact ⟨rfl, rfl, rfl⟩)) ?_
      rintro gs0 H5' ⟨rfl, rfl⟩
      have ask := askE (fs := eC (.int 40)) (fg := eVar 8) (gs := [some (.ref b), some (.ref T), some (.int st), some (.ref G3'.length), none, some (.int p), some (.ref G5'.length), some d, some (.ref H4.length)]) rfl (var_of rfl) gE5 (s := .int 40) trivial ra.giv (.inr ⟨rfl, .inl rl⟩)
      refine ws_ifN (G1 := H5') (tn_of (b := true) (tb_of ask)) ?_
      rw [ws_bNil, onTurn_nx]
      exact ⟨_, _, rfl, ((((k.trans k1).trans k2).trans k3).trans k4).trans k5⟩
    · rintro gs H ⟨o7, o8, rfl, k⟩
      exact ⟨rfl, trivial⟩
  rintro gs0 K -
  refine ws_retE (we_of (r := .val (.bl true)) (G := K) rfl ?_)
  rw [onR_val]
  exact slim_bl fun _ => rfl
end
theorem mkX_ok {gs : Sg} {G : Hh} : eMkX 1 2 [(0, 1), (1, 2)] (aCons (eC (.str "circle")) (aCons (eC (.int 4)) aNil)) gs G = some (.val (.xo 1 [1, 0] [.int 4, .str "circle"]), G) := by
  unfold eMkX
  rw [fa_cons (d := .str "circle") rfl (fa_cons (d := .int 4) rfl fa_nil), bnd_val]
  rfl
theorem law_pure (ns : List Int) (hl : ns.length ≤ 63) : ∃ G', F_law [.kl (ns.map .int)] [] = some (.val (.bl true), G') := by
  suffices key : we (F_law [.kl (ns.map .int)] []) fun r G' => r = .val (.bl true) by
    obtain ⟨r, G', e, rfl⟩ := key
    exact ⟨G', e⟩
  refine we_fn rfl ?_
  unfold b_law
  have hlen : ∀ G, bLen (.kl (ns.map .int)) G = some (.val (.int ns.length), G) := fun G => by
    show some (Rs.val (D.int ((ns.map D.int).length : Int)), G) = _
    rw [List.length_map]
  obtain ⟨xv, hxv⟩ : ∃ xv, D.xo 1 [1, 0] [.int 4, .str "circle"] = xv := ⟨_, rfl⟩
  refine ws_cut (fun gs G' => gs = [some (.kl (ns.map .int)), some xv, none, none, none, none] ∧ G' = []) (by rw [ws_sAsg]; exact we_of mkX_ok (by rw [onR_val, asO_gNm, hxv]; exact ⟨rfl, rfl, rfl⟩)) ?_
  rintro gs0 G0 ⟨rfl, rfl⟩
  obtain ⟨n1, n2, n3, n4, n5, n6, n7⟩ := words_lay
  have x0 : eUn (dXo [1] 0) (eVar 1) [some (.kl (ns.map .int)), some xv, none, none, none, none] [] = some (.val (.str "circle"), []) := eUn_of (var_of rfl) (by rw [← hxv]; rfl)
  have x1 : eUn (dXo [1, 2] 1) (eVar 1) [some (.kl (ns.map .int)), some xv, none, none, none, none] [] = some (.val (.int 4), []) := eUn_of (var_of rfl) (by rw [← hxv]; rfl)
  have hs := same_row_ok (G := []) (ds := [.str "circle", .int 4]) (due := .tup [.str "circle", .int 4]) seq_tup (by simp) (fun d hd => by
    simp only [List.mem_cons, List.not_mem_nil, or_false] at hd
    rcases hd with rfl | rfl
    · exact n7
    · exact trivial)
  refine ws_ifN (G1 := []) (tn_of (b := true) (tb_of (call_of (ds := [.tup [.str "circle", .int 4], .tup [.str "circle", .int 4]]) (fa_cons (eArgs_of (ds := [.str "circle", .int 4]) (fa_cons x0 (fa_cons x1 fa_nil)) rfl) (fa_cons rfl fa_nil)) hs))) ?_
  obtain ⟨j, hj, j0, j1⟩ : ∃ j : Int, (if (1 : Int) < (if (3 : Int) < ns.length then 3 else (ns.length : Int)) then (if (3 : Int) < ns.length then 3 else (ns.length : Int)) else 1) = j ∧ 0 ≤ j ∧ j ≤ 3 := ⟨_, rfl, by split <;> (try split) <;> omega, by split <;> (try split) <;> omega⟩
  refine ws_cut (fun gs G' => True) ?_ ?_
  · refine ws_sFor (wRng1_eq (j := j) (G1 := []) (we_eq (by simp [we_eVar, hlen]; exact hj)) (by omega)) (fun i gs G' => ∃ o2 o3 o4 o5 : Option D, gs = [some (.kl (ns.map .int)), some xv, o2, o3, o4, o5]) ⟨none, none, none, none, rfl⟩ (fun _ _ _ _ _ => trivial) ?_ ?_
    · rintro i hi gs H ⟨o2, o3, o4, o5, rfl⟩
      have hi' : i < 3 := by rw [rngD_length] at hi; omega
      rw [rngD_get hi]
      simp only [Int.zero_add]
      rw [asO_gNm]
      obtain ⟨a, m, eb⟩ := bag_ok (ns := ns) (k := i) H (by omega)
      obtain ⟨H1, hH1⟩ : ∃ H1, H ++ [bgO a m] = H1 := ⟨_, rfl⟩
      have b1 : BoxS [] H.length 0 H1 := ⟨fun x hx => absurd hx (List.not_mem_nil), a, m, by rw [← hH1]; simp⟩
      rw [hH1] at eb
      refine ws_cut (fun gs G' => gs = [some (.kl (ns.map .int)), some xv, some (.int i), some (.ref H.length), o4, o5] ∧ G' = H1) (by simp [we_eVar, eb]) ?_
      rintro gs0 H1' ⟨rfl, rfl⟩
      obtain ⟨w, H2, e2, w0, w1, b2, k2⟩ := draw b1 (by omega) (z := 8) (by omega) (by omega)
      refine ws_cut (fun gs G' => gs = [some (.kl (ns.map .int)), some xv, some (.int i), some (.ref H.length), some (.int w), o5] ∧ G' = H2) (by simp [we_eVar, e2]) ?_
      rintro gs0 H2' ⟨rfl, rfl⟩
      have b2' : BoxS [] H.length 0 H2' := b2
      have go : ∀ {F : Fn} {e : Rs D × Hh}, F [.ref H.length] H2' = some (.val (.bl true), e.2) → ws (bSeq (sAsg (eCall F (aCons (eVar 3) aNil)) (gNm 5)) bNil [some (.kl (ns.map .int)), some xv, some (.int i), some (.ref H.length), some (.int w), o5] H2') fun fl gs G' => fl = .nx ∧ gs = [some (.kl (ns.map .int)), some xv, some (.int i), some (.ref H.length), some (.int w), some (.bl true)] := fun h => by
        refine ws_bSeq.mpr ?_
        rw [ws_sAsg]
        refine we_of (call_of (fa_cons (var_of rfl) fa_nil) h) ?_
        rw [onR_val, asO_gNm, onFl_nx, ws_bNil]
        exact ⟨rfl, rfl⟩
      obtain ⟨_, H3, e3, rfl⟩ := large_ok b2'
      obtain ⟨_, H4, e4, rfl⟩ := round_ok b2'
      obtain ⟨_, H5, e5, rfl⟩ := small_ok b2'
      refine ws_cut (fun gs G' => gs = [some (.kl (ns.map .int)), some xv, some (.int i), some (.ref H.length), some (.int w), some (.bl true)]) ?_ ?_
      · rw [ws_sIf]
        refine we_of (r := .val (decide (w = 7))) (G := H2') (tb_of (eOp_of (var_of rfl) rfl (we_eq (by simp)))) ?_
        rw [onR_val]
        by_cases h7 : w = 7
        · rw [decide_eq_true h7, if_pos rfl]
          exact go (e := (.val .non, H3)) e3
        · rw [decide_eq_false h7, if_neg Bool.false_ne_true]
          refine ws_bSeq.mpr ?_
          rw [ws_sIf]
          refine we_of (r := .val (decide (w = 6))) (G := H2') (tb_of (eOp_of (var_of rfl) rfl (we_eq (by simp)))) ?_
          rw [onR_val]
          by_cases h6 : w = 6
          · rw [decide_eq_true h6, if_pos rfl]
            refine ws_mono (go (e := (.val .non, H4)) e4) ?_
            rintro fl gs G' ⟨rfl, rfl⟩
            rw [onFl_nx, ws_bNil]
            exact ⟨rfl, rfl⟩
          · rw [decide_eq_false h6, if_neg Bool.false_ne_true]
            refine ws_mono (go (e := (.val .non, H5)) e5) ?_
            rintro fl gs G' ⟨rfl, rfl⟩
            rw [onFl_nx, ws_bNil]
            exact ⟨rfl, rfl⟩
      rintro gs0 H6 rfl
      refine ws_ifN (G1 := H6) (tn_of (b := true) (tb_of (var_of rfl))) ?_
      rw [ws_bNil, onTurn_nx]
      exact ⟨_, _, _, _, rfl⟩
    · rintro gs G' ⟨o2, o3, o4, o5, rfl⟩
      exact ⟨rfl, trivial⟩
  rintro gs0 G0 -
  refine ws_retE (we_of (r := .val (.bl true)) (G := G0) rfl ?_)
  rw [onR_val]
  exact slim_bl fun _ => rfl
end FI.K00
theorem PySem.Challenge.cw_withincall_k00_pipelines_checked_holds : PySem.Challenge.rw_withincall_k00_pipelines_checked.Holds := by
  exact FI.K00.holds_of FI.K00.law_pure
