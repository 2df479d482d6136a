import PyProof.Rows.All
import Wide.All
import OpenK.AllK
import Wide.FinOn
import HandS.ForMost
import HandS.ForExc
import HandS.Gcd
import HandS.Wide
import HandS.Walk
import HandS.IsInst
import HandS.Lambda
import HandS.ExcValue
import HandS.TupAny
import HandS.TupMul
import HandS.Style
import HandS.Zip
import HandS.ExcIs
import HandS.Base
import HandS.Call
import HandS.List
import HandS.Iter
import KE.GoesEnum
import PyProof.EnumMake
import HandS.Defaults
import HandS.CallLocal
import HandS.Head0
import HandS.Head1
import HandS.Head2
import HandS.HeadEnd
import HandS.HeadHook1
import HandS.HeadHook2
import HandS.ExcOwn
import HandS.EndTab
import HandS.HeadWalk
import KE.HD3
import PySem.Challenge.RW_chancebounds_k75_whole_chances_by_a_spre
set_option Elab.async false
set_option linter.all false
set_option maxRecDepth 100000
set_option maxHeartbeats 2000000
/-! PV: a layer of plain values over the hand layer. Part 1: values, what stands for them, slots. -/
namespace PV
open PySem PySem.Spec PyProof.Rows L2

/-- a plain value -/
inductive D where
  | non | bl (b : Bool) | int (i : Int) | str (s : Str)
  | tup (xs : List D) | lst (xs : List D) | scr (ns : List Int)
  | fn (k : Nat) | exc (k : Nat) (fs : List D) | tok (k : Nat)

/-- a shared object that changes -/
inductive MO where
  | lst (ds : List D) | dct (fs : List (Str × D)) | tab (q : Str)
abbrev Ms := List MO
/-- an exception that flies: its kind, its fields -/
structure Xc where
  k : Nat
  fs : List D

/-- where things of the program stand -/
structure GC where
  K : PySem.W.Frag
  fa : Nat → Addr
  ec : Nat → Addr
  en : Nat → List Str
  hx : Nat → Addr → Option Addr → HO
  tb : Addr
  tq : Str

mutual
def Rep (g : GC) (al : List Addr) (H : Hp) : D → V → Prop
  | .non, v => v = .non
  | .bl b, v => v = .bl b
  | .int i, v => v = .int i
  | .str s, v => v = .str s
  | .tup ds, v => ∃ a vs, v = .ref a ∧ SqT g.K H a vs ∧ Reps g al H ds vs
  | .lst ds, v => ∃ a vs, v = .ref a ∧ H a = some (.lst vs) ∧ Reps g al H ds vs
  | .scr ns, v => ∃ a, v = .ref a ∧ SqL g.K H a (ns.map V.int)
  | .fn k, v => v = .ref (g.fa k)
  | .exc k fs, v => ∃ a d vs, v = .ref a ∧ H a = some (g.hx k a d) ∧ Reps g al H fs vs ∧ (d = none ∧ fs = [] ∨ fs ≠ [] ∧ ∃ x, d = some x ∧ H x = some (.xd ((g.en k).zip vs)))
  | .tok k, v => ∃ a, al[k]? = some a ∧ v = .ref a
def Reps (g : GC) (al : List Addr) (H : Hp) : List D → List V → Prop
  | [], vs => vs = []
  | d :: ds, vs => ∃ v r, vs = v :: r ∧ Rep g al H d v ∧ Reps g al H ds r
end

section
variable {g : GC} {al al' : List Addr} {H H' : Hp}
theorem sqT_mono (e : Same H H') {a : Addr} {vs : List V} (h : SqT g.K H a vs) : SqT g.K H' a vs := by
  rcases h with (h | ⟨o, h⟩) | h
  · exact .inl (.inl (e _ _ h))
  · exact .inl (.inr ⟨o, e _ _ h⟩)
  · exact .inr h
theorem pre_get (p : al <+: al') {k : Nat} {a : Addr} (h : al[k]? = some a) : al'[k]? = some a := by
  obtain ⟨t, rfl⟩ := p
  have hk : k < al.length := (List.getElem?_eq_some_iff.mp h).1
  rw [List.getElem?_append_left hk]; exact h
mutual
theorem Rep.mono (e : Same H H') (p : al <+: al') : ∀ {d : D} {v : V}, Rep g al H d v → Rep g al' H' d v
  | .non, _, h => h
  | .bl _, _, h => h
  | .int _, _, h => h
  | .str _, _, h => h
  | .tup ds, v, h => by
    obtain ⟨a, vs, h1, h2, h3⟩ := h
    exact ⟨a, vs, h1, sqT_mono e h2, Reps.mono e p h3⟩
  | .lst ds, v, h => by
    obtain ⟨a, vs, h1, h2, h3⟩ := h
    exact ⟨a, vs, h1, e _ _ h2, Reps.mono e p h3⟩
  | .scr ns, v, h => by
    obtain ⟨a, h1, h2⟩ := h
    exact ⟨a, h1, e.seq h2⟩
  | .fn _, _, h => h
  | .exc k fs, v, h => by
    obtain ⟨a, d, vs, h1, h2, h3, h4⟩ := h
    refine ⟨a, d, vs, h1, e _ _ h2, Reps.mono e p h3, ?_⟩
    rcases h4 with h4 | ⟨h6, x, h4, h5⟩
    · exact .inl h4
    · exact .inr ⟨h6, x, h4, e _ _ h5⟩
  | .tok k, v, h => by
    obtain ⟨a, h1, h2⟩ := h
    exact ⟨a, pre_get p h1, h2⟩
theorem Reps.mono (e : Same H H') (p : al <+: al') : ∀ {ds : List D} {vs : List V}, Reps g al H ds vs → Reps g al' H' ds vs
  | [], _, h => h
  | d :: ds, vs, h => by
    obtain ⟨v, r, h1, h2, h3⟩ := h
    exact ⟨v, r, h1, Rep.mono e p h2, Reps.mono e p h3⟩
end
theorem Reps.nil : Reps g al H [] [] := rfl
theorem Reps.cons {d : D} {ds : List D} {v : V} {vs : List V} (h : Rep g al H d v) (t : Reps g al H ds vs) : Reps g al H (d :: ds) (v :: vs) := ⟨v, vs, rfl, h, t⟩
theorem Reps.length : ∀ {ds : List D} {vs : List V}, Reps g al H ds vs → vs.length = ds.length
  | [], _, h => by cases (show _ = [] from h); rfl
  | d :: ds, vs, h => by
    obtain ⟨v, r, rfl, _, h3⟩ := h
    simp [Reps.length h3]
theorem Reps.get : ∀ {ds : List D} {vs : List V} {i : Nat} {d : D}, Reps g al H ds vs → ds[i]? = some d → ∃ v, vs[i]? = some v ∧ Rep g al H d v
  | [], _, _, _, _, e => by simp at e
  | d0 :: ds, vs, 0, d, h, e => by
    obtain ⟨v, r, rfl, h2, h3⟩ := h
    simp at e; subst e
    exact ⟨v, rfl, h2⟩
  | d0 :: ds, vs, i + 1, d, h, e => by
    obtain ⟨v, r, rfl, h2, h3⟩ := h
    obtain ⟨w, h4, h5⟩ := Reps.get (i := i) h3 (by simpa using e)
    exact ⟨w, by simpa using h4, h5⟩
theorem Reps.get' : ∀ {ds : List D} {vs : List V} {i : Nat} {v : V}, Reps g al H ds vs → vs[i]? = some v → ∃ d, ds[i]? = some d ∧ Rep g al H d v := by
  intro ds vs i v h e
  have hl := h.length
  have hi : i < ds.length := by rw [← hl]; exact (List.getElem?_eq_some_iff.mp e).1
  obtain ⟨w, h1, h2⟩ := h.get (List.getElem?_eq_getElem hi)
  rw [e] at h1; cases h1
  exact ⟨_, List.getElem?_eq_getElem hi, h2⟩
theorem Reps.append : ∀ {ds es : List D} {vs us : List V}, Reps g al H ds vs → Reps g al H es us → Reps g al H (ds ++ es) (vs ++ us)
  | [], _, _, _, h, k => by cases (show _ = [] from h); exact k
  | d :: ds, _, _, _, h, k => by
    obtain ⟨v, r, rfl, h2, h3⟩ := h
    exact ⟨v, _, rfl, h2, Reps.append h3 k⟩
theorem Reps.take : ∀ (n : Nat) {ds : List D} {vs : List V}, Reps g al H ds vs → Reps g al H (ds.take n) (vs.take n)
  | 0, _, _, _ => by simp [Reps]
  | n + 1, [], _, h => by cases (show _ = [] from h); simp [Reps]
  | n + 1, d :: ds, _, h => by
    obtain ⟨v, r, rfl, h2, h3⟩ := h
    exact ⟨v, _, rfl, h2, Reps.take n h3⟩
theorem Reps.drop : ∀ (n : Nat) {ds : List D} {vs : List V}, Reps g al H ds vs → Reps g al H (ds.drop n) (vs.drop n)
  | 0, _, _, h => by simpa using h
  | n + 1, [], _, h => by cases (show _ = [] from h); simp [Reps]
  | n + 1, d :: ds, _, h => by
    obtain ⟨v, r, rfl, h2, h3⟩ := h
    exact Reps.drop n h3
theorem Reps.set : ∀ {ds : List D} {vs : List V} (i : Nat) {d : D} {v : V}, Rep g al H d v → Reps g al H ds vs → Reps g al H (ds.set i d) (vs.set i v)
  | [], _, _, _, _, _, h => by cases (show _ = [] from h); simp [Reps]
  | d0 :: ds, _, 0, d, v, hd, h => by
    obtain ⟨v0, r, rfl, h2, h3⟩ := h
    exact ⟨v, r, rfl, hd, h3⟩
  | d0 :: ds, _, i + 1, d, v, hd, h => by
    obtain ⟨v0, r, rfl, h2, h3⟩ := h
    exact ⟨v0, _, rfl, h2, Reps.set i hd h3⟩
theorem Reps.reverse {ds : List D} {vs : List V} (h : Reps g al H ds vs) : Reps g al H ds.reverse vs.reverse := by
  induction ds generalizing vs with
  | nil => cases (show _ = [] from h); exact rfl
  | cons d ds ih =>
    obtain ⟨v, r, rfl, h2, h3⟩ := h
    rw [List.reverse_cons, List.reverse_cons]
    exact (ih h3).append ⟨v, [], rfl, h2, rfl⟩
theorem Reps.dropLast {ds : List D} {vs : List V} (h : Reps g al H ds vs) : Reps g al H ds.dropLast vs.dropLast := by
  rw [List.dropLast_eq_take, List.dropLast_eq_take, h.length]
  exact h.take _
theorem Reps.eraseIdx : ∀ {ds : List D} {vs : List V} (i : Nat), Reps g al H ds vs → Reps g al H (ds.eraseIdx i) (vs.eraseIdx i)
  | [], _, _, h => by cases (show _ = [] from h); simp [Reps]
  | d0 :: ds, _, 0, h => by
    obtain ⟨v0, r, rfl, h2, h3⟩ := h
    exact h3
  | d0 :: ds, _, i + 1, h => by
    obtain ⟨v0, r, rfl, h2, h3⟩ := h
    exact ⟨v0, _, rfl, h2, Reps.eraseIdx i h3⟩
theorem Reps.ints : ∀ {ns : List Int} {vs : List V}, Reps g al H (ns.map D.int) vs → vs = ns.map V.int
  | [], _, h => h
  | n :: ns, _, h => by
    obtain ⟨v, r, rfl, h2, h3⟩ := h
    rw [show v = V.int n from h2, Reps.ints h3]; rfl
theorem Reps.bls : ∀ {ns : List Bool} {vs : List V}, Reps g al H (ns.map D.bl) vs → vs = ns.map V.bl
  | [], _, h => h
  | n :: ns, _, h => by
    obtain ⟨v, r, rfl, h2, h3⟩ := h
    rw [show v = V.bl n from h2, Reps.bls h3]; rfl
theorem reps_ints : ∀ (ns : List Int), Reps g al H (ns.map D.int) (ns.map V.int)
  | [] => rfl
  | n :: ns => ⟨_, _, rfl, rfl, reps_ints ns⟩
end

/-! ### masks -/
open Classical in
noncomputable def msk (H : Hp) (P : Addr → Prop) : Hp := fun b => if P b then none else H b
theorem msk_of {H : Hp} {P : Addr → Prop} {b : Addr} (h : ¬ P b) : msk H P b = H b := by unfold msk; rw [if_neg h]
theorem of_msk {H : Hp} {P : Addr → Prop} {b : Addr} {o : HO} (h : msk H P b = some o) : ¬ P b ∧ H b = some o := by
  unfold msk at h
  split at h
  · cases h
  · exact ⟨by assumption, h⟩
theorem msk_same {H : Hp} {P : Addr → Prop} : Same (msk H P) H := fun _ _ h => (of_msk h).2
theorem msk_anti {H : Hp} {P P' : Addr → Prop} (h : ∀ b, P' b → P b) : Same (msk H P) (msk H P') := fun b o e => by
  obtain ⟨n, q⟩ := of_msk e
  rw [msk_of fun z => n (h b z)]; exact q

/-- what may have come between: the shared objects may have changed, new ones may have come, all else stands -/
structure Grow (al : List Addr) (H : Hp) (al' : List Addr) (H' : Hp) : Prop where
  pre : al <+: al'
  keep : ∀ b o, H b = some o → b ∉ al → H' b = some o
  new : ∀ b, b ∈ al' → b ∉ al → H b = none
theorem Grow.refl (al : List Addr) (H : Hp) : Grow al H al H := ⟨List.prefix_refl _, fun _ _ h _ => h, fun _ h n => absurd h n⟩
theorem Grow.trans {al al1 al2 : List Addr} {H H1 H2 : Hp} (a : Grow al H al1 H1) (b : Grow al1 H1 al2 H2) : Grow al H al2 H2 :=
  ⟨a.pre.trans b.pre, fun c o h n => b.keep c o (a.keep c o h n) (fun m => by rw [a.new c m n] at h; cases h), fun c h n => (by
    by_cases m : c ∈ al1
    · exact a.new c m n
    · cases e : H c with
      | none => rfl
      | some o =>
        have := b.new c h m
        rw [a.keep c o e n] at this; cases this)⟩
theorem Grow.msk {al al' : List Addr} {H H' : Hp} (a : Grow al H al' H') (P : Addr → Prop) : Same (msk H fun b => P b ∨ b ∈ al) (msk H' fun b => P b ∨ b ∈ al') := fun b o e => by
  obtain ⟨n, q⟩ := of_msk e
  have n1 : b ∉ al := fun z => n (.inr z)
  rw [msk_of]
  · exact a.keep b o q n1
  · rintro (z | z)
    · exact n (.inl z)
    · rw [a.new b z n1] at q; cases q
/-- a new object -/
theorem Grow.upd {al : List Addr} {H : Hp} {p : Addr} {o : HO} (h : H p = none) : Grow al H al (upd H p o) :=
  ⟨List.prefix_refl _, fun b u e _ => by rw [upd_ne (ne_of_none e h)]; exact e, fun _ h n => absurd h n⟩

/-! ### slots -/
inductive Sl where
  | un | val (d : D) | own (ds : List D)
abbrev Ro := List Sl
abbrev Ow := Nat → Option Addr
def hid (B : Addr → Prop) (O : Ow) (b : Addr) : Prop := B b ∨ ∃ i, O i = some b
/-- the heap of what stands still: without the callers' own, the own, the shared objects -/
noncomputable def hm (B : Addr → Prop) (O : Ow) (al : List Addr) (H : Hp) : Hp := msk H fun b => hid B O b ∨ b ∈ al
def SlOk (g : GC) (al : List Addr) (Hm H : Hp) (o : Option Addr) (sv : Option (Option V)) : Sl → Prop
  | .un => o = none
  | .val d => o = none ∧ ∃ v, sv = some (some v) ∧ Rep g al Hm d v
  | .own ds => ∃ p vs, o = some p ∧ sv = some (some (.ref p)) ∧ H p = some (.lst vs) ∧ Reps g al Hm ds vs
def FsOk (g : GC) (al : List Addr) (Hm : Hp) : List (Str × D) → List (Key × V) → Prop
  | [], kvs => kvs = []
  | (n, d) :: fs, kvs => ∃ v r, kvs = (Sum.inr n, v) :: r ∧ Rep g al Hm d v ∧ FsOk g al Hm fs r
def MoOk (g : GC) (al : List Addr) (Hm H : Hp) (a : Addr) : MO → Prop
  | .lst ds => ∃ vs, H a = some (.lst vs) ∧ Reps g al Hm ds vs
  | .dct fs => ∃ kvs, H a = some (.dK kvs) ∧ FsOk g al Hm fs kvs
  | .tab q => (a = g.tb ∧ q = g.tq) ∧ ∃ ps, H a = some (.tbl ps) ∧ TriplesOk ps.toList ∧ ∀ (pos : Pos) (cv : Value), codeAmong pos ps.toList = some cv → ∃ c, cv = .ref c ∧ Hm c = some (LamX.CodeO c q)
/-- the shared objects -/
structure MsOk (g : GC) (al : List Addr) (Hm H : Hp) (M : Ms) : Prop where
  len : al.length = M.length
  nd : al.Nodup
  at_ : ∀ (k : Nat) (a : Addr) (m : MO), al[k]? = some a → M[k]? = some m → MoOk g al Hm H a m
structure EnvOk (g : GC) (B : Addr → Prop) (O : Ow) (al0 : List Addr) (H0 : Hp) (al : List Addr) (σ : L2.St) (H : Hp) (r : Ro) (M : Ms) : Prop where
  len : σ.length = r.length
  sl : ∀ i s, r[i]? = some s → SlOk g al (hm B O al H) H (O i) σ[i]? s
  inj : ∀ i j p, O i = some p → O j = some p → i = j
  lt : ∀ i p, O i = some p → i < r.length
  fr : ∀ i p, O i = some p → H0 p = none ∧ p ∉ al ∧ ¬ B p ∧ (H p).isSome = true
  ms : MsOk g al (hm B O al H) H M
  bt : ∀ b, B b → (H b).isSome = true ∧ b ∉ al
  gr : Grow al0 H0 al H
end PV

set_option Elab.async false
set_option linter.all false
set_option maxRecDepth 100000
set_option maxHeartbeats 2000000
/-! PV part 2: the small language and what it asks. -/
namespace PV
open PySem PySem.Spec PyProof.Rows L2

inductive Ty where
  | int | bool | str | tup | lst | dct | own (k : Nat)
  deriving DecidableEq
inductive P1 where
  | neg | len | abs | toInt | tuple | list | sum | all | any | rev
  deriving DecidableEq
inductive P2 where
  | add | sub | mul | fdiv | mod | pow | eq | ne | lt | le | gt | ge | ix | inn | nin | min2 | max2 | gcd
  deriving DecidableEq
inductive Tg where
  | nm (i : Nat) | tp (is : List Nat)
  deriving DecidableEq

/-- expressions; nil and cons are argument lists, the i.. what is walked -/
inductive X where
  | v (i : Nat) | pk (i : Nat)
  | non | bl (b : Bool) | int (i : Int) | str (s : Str)
  | glo (k : Nat) | fnv (k : Nat)
  | nil | cons (a r : X)
  | tup (r : X) | lst (r : X)
  | p1 (p : P1) (a : X) | p2 (p : P2) (a b : X)
  | chn (p q : P2) (a b c : X)
  | isN (neg : Bool) (a : X) | isB (neg b : Bool) (a : X)
  | isi (cs : List Ty) (a : X)
  | nt (a : X) | an (a b : X) | or (a b : X)
  | ife (t a b : X)
  | sl (a lo hi : X)
  | call (f : Nat) (r : X) | callk (f : Nat) (r : X) (ks : List Nat) | callv (i : Nat) (r : X)
  | comp (own : List Nat) (e : X) (t : Tg) (it c : X)
  | iseq (a : X) | irng (a : X) | irng2 (a b : X) | izip (a b : X) | ienum (a : X)
  | cau (f : Nat) (e : X)
  | dget (i : Nat) (k : Str) | pop0 (i : Nat) (k : Str) | tne (i : Nat) (k : Str) | mkd (ks : List Str) (r : X)
  | bad

/-- statements; frz lets a slot's own list stand still from here on -/
inductive S where
  | skip | seq (a b : S)
  | asg (t : Tg) (x : X) | asgO (i : Nat) (x : X)
  | par (ts : List (Nat × Bool)) (r : X)
  | setI (i : Nat) (j x : X)
  | app (i : Nat) (x : X) | ext (i : Nat) (x : X) | insr (i : Nat) (j x : X)
  | popT (t : Tg) (i : Nat)
  | expr (x : X) | aug (i : Nat) (p : P2) (x : X)
  | ife (c : X) (a b : S) | for_ (t : Tg) (it : X) (b : S) | while_ (c : X) (b : S)
  | ret (x : X) | retN | rais (k : Nat) (r : X)
  | frz (i : Nat) (s : S) | pas | cont | brk
  | dset (i : Nat) (k : Str) (x : X) | shr (i : Nat) (s : S)
  | bad

/-! ### values by themselves -/
/-- a product that the model still tells -/
def MulC (i j : Int) : Prop := i.natAbs.log2 + j.natAbs.log2 < 100000000
def b2n (b : Bool) : Int := if b then 1 else 0
mutual
def dEq : D → D → Bool
  | .non, .non => true
  | .bl a, .bl b => a == b
  | .bl a, .int j => b2n a == j
  | .int i, .bl b => i == b2n b
  | .int i, .int j => i == j
  | .str x, .str y => x == y
  | .tup xs, .tup ys => dEqs xs ys
  | .lst xs, .lst ys => dEqs xs ys
  | _, _ => false
def dEqs : List D → List D → Bool
  | [], [] => true
  | x :: xs, y :: ys => dEq x y && dEqs xs ys
  | _, _ => false
end
mutual
def dOk : D → Bool
  | .non => true
  | .bl _ => true
  | .int _ => true
  | .str s => PyData.strOk s
  | .tup xs => dOks xs
  | .lst xs => dOks xs
  | _ => false
def dOks : List D → Bool
  | [] => true
  | x :: xs => dOk x && dOks xs
end
mutual
def dDep : D → Nat
  | .tup xs => dDeps xs + 1
  | .lst xs => dDeps xs + 1
  | _ => 0
def dDeps : List D → Nat
  | [] => 0
  | x :: xs => max (dDep x) (dDeps xs)
end
/-- the items of a list or a tuple -/
def sq (M : Ms) : D → Option (List D)
  | .tup ds => some ds
  | .lst ds => some ds
  | .scr ns => some (ns.map .int)
  | .tok k => match M[k]? with
    | some (.lst ds) => some ds
    | _ => none
  | _ => none
/-- the items of a list or a tuple that stands still -/
def sqi : D → Option (List D)
  | .tup ds => some ds
  | .lst ds => some ds
  | .scr ns => some (ns.map .int)
  | _ => none
/-- the items of a list -/
def sqL (M : Ms) : D → Option (List D)
  | .lst ds => some ds
  | .scr ns => some (ns.map .int)
  | .tok k => match M[k]? with
    | some (.lst ds) => some ds
    | _ => none
  | _ => none
def opt {α : Type} (o : Option α) (k : α → Prop) : Prop := match o with
  | some a => k a
  | none => False
@[simp] theorem opt_some {α : Type} {a : α} {k : α → Prop} : opt (some a) k = k a := rfl
@[simp] theorem opt_none {α : Type} {k : α → Prop} : opt none k = False := rfl
theorem opt_iff {α : Type} {o : Option α} {k : α → Prop} : opt o k ↔ ∃ a, o = some a ∧ k a := by
  cases o <;> simp [opt]
theorem opt_of {α : Type} {o : Option α} {a : α} {k : α → Prop} (h : o = some a) (q : k a) : opt o k := by rw [h]; exact q
def isNon : D → Bool
  | .non => true
  | _ => false
def wb (d : D) (k : Bool → Prop) : Prop := match d with
  | .bl b => k b
  | _ => False
@[simp] theorem wb_bl {b : Bool} {k : Bool → Prop} : wb (.bl b) k = k b := rfl
def wint (d : D) (k : Int → Prop) : Prop := match d with
  | .int i => k i
  | _ => False
@[simp] theorem wint_int {i : Int} {k : Int → Prop} : wint (.int i) k = k i := rfl
def asInts : List D → Option (List Int)
  | [] => some []
  | .int i :: ds => (asInts ds).map (i :: ·)
  | _ :: _ => none
def asBls : List D → Option (List Bool)
  | [] => some []
  | .bl i :: ds => (asBls ds).map (i :: ·)
  | _ :: _ => none
def tyOf : D → Ty → Bool
  | .bl _, .bool => true
  | .bl _, .int => true
  | .int _, .int => true
  | .str _, .str => true
  | .tup _, .tup => true
  | .lst _, .lst => true
  | .scr _, .lst => true
  | _, _ => false
abbrev line : Nat := 16000000

def w1 (M : Ms) : P1 → D → (D → Prop) → Prop
  | .neg, d, Q => wint d fun i => Q (.int (-i))
  | .len, d, Q => match d with
    | .str s => s.length ≤ line ∧ Q (.int s.length)
    | d => opt (sq M d) fun ds => Q (.int ds.length)
  | .abs, d, Q => wint d fun i => Q (.int i.natAbs)
  | .toInt, d, Q => match d with
    | .int i => Q (.int i)
    | .bl b => Q (.int (b2n b))
    | _ => False
  | .tuple, d, Q => opt (sq M d) fun ds => Q (.tup ds)
  | .list, d, Q => opt (sq M d) fun ds => Q (.lst ds)
  | .sum, d, Q => opt (sqL M d) fun ds => opt (asInts ds) fun ns => Q (.int ns.sum)
  | .all, d, Q => opt (sqL M d) fun ds => opt (asBls ds) fun ns => Q (.bl (ns.all id))
  | .any, d, Q => opt (sqL M d) fun ds => opt (asBls ds) fun ns => Q (.bl (ns.any id))
  | .rev, d, Q => match d with
    | .tup ds => Q (.tup ds.reverse)
    | d => opt (sqL M d) fun ds => Q (.lst ds.reverse)
def wII (a b : D) (Q : Int → Int → Prop) : Prop := wint a fun i => wint b fun j => Q i j
def w2 (M : Ms) : P2 → D → D → (D → Prop) → Prop
  | .add, a, b, Q => match a, b with
    | .int i, .int j => Q (.int (i + j))
    | .str x, .str y => x.length + y.length ≤ line ∧ Q (.str (x ++ y))
    | .tup xs, .tup ys => xs.length + ys.length ≤ line ∧ Q (.tup (xs ++ ys))
    | .lst xs, .lst ys => xs.length + ys.length ≤ line ∧ Q (.lst (xs ++ ys))
    | _, _ => False
  | .sub, a, b, Q => wII a b fun i j => Q (.int (i - j))
  | .mul, a, b, Q => match a, b with
    | .int i, .int j => MulC i j ∧ Q (.int (i * j))
    | .lst xs, .int k => xs.length * k.toNat ≤ line ∧ k ≤ line ∧ -line ≤ k ∧ Q (.lst (List.replicate k.toNat xs).flatten)
    | .tup xs, .int k => xs ≠ [] ∧ 2 ≤ k ∧ k ≤ 1000 ∧ xs.length ≤ 1000 ∧ Q (.tup (List.replicate k.toNat xs).flatten)
    | _, _ => False
  | .fdiv, a, b, Q => wII a b fun i j => (j ≠ 0 ∧ j.natAbs.log2 < 9000) ∧ Q (.int (i.fdiv j))
  | .mod, a, b, Q => wII a b fun i j => j ≠ 0 ∧ Q (.int (i.fmod j))
  | .pow, a, b, Q => wII a b fun i j => (0 ≤ j ∧ j ≤ 1000 ∧ i.natAbs < 2 ^ 64) ∧ Q (.int (i ^ j.toNat))
  | .eq, a, b, Q => dOk a = true ∧ dOk b = true ∧ min (dDep a) (dDep b) ≤ 60 ∧ Q (.bl (dEq a b))
  | .ne, a, b, Q => dOk a = true ∧ dOk b = true ∧ min (dDep a) (dDep b) ≤ 60 ∧ Q (.bl (!dEq a b))
  | .lt, a, b, Q => match a, b with
    | .int i, .int j => Q (.bl (decide (i < j)))
    | .str x, .str y => Q (.bl (decide (x.cps.toList < y.cps.toList)))
    | _, _ => False
  | .le, a, b, Q => wII a b fun i j => Q (.bl (decide (i ≤ j)))
  | .gt, a, b, Q => wII a b fun i j => Q (.bl (decide (j < i)))
  | .ge, a, b, Q => wII a b fun i j => Q (.bl (decide (j ≤ i)))
  | .ix, a, b, Q => wint b fun i => opt (sq M a) fun ds => opt (atI ds i) Q
  | .inn, a, b, Q => opt (sq M b) fun ds => dOk a = true ∧ dOks ds = true ∧ min (dDep a) (dDeps ds) ≤ 60 ∧ Q (.bl (ds.any fun y => dEq y a))
  | .nin, a, b, Q => opt (sq M b) fun ds => dOk a = true ∧ dOks ds = true ∧ min (dDep a) (dDeps ds) ≤ 60 ∧ Q (.bl (!ds.any fun y => dEq y a))
  | .min2, a, b, Q => wII a b fun i j => Q (.int (if j < i then j else i))
  | .max2, a, b, Q => wII a b fun i j => Q (.int (if j > i then j else i))
  | .gcd, a, b, Q => wII a b fun i j => Q (.int (Nat.gcd i.natAbs j.natAbs : Nat))
def cut (ds : List D) (lo hi : Option Int) : List D := (ds.drop (HT.sIx ds.length 0 lo)).take (HT.sIx ds.length ds.length hi - HT.sIx ds.length 0 lo)
def wsl (M : Ms) (a : D) (lo hi : Option Int) (Q : D → Prop) : Prop := match a with
  | .tup ds => Q (.tup (cut ds lo hi))
  | d => opt (sqL M d) fun ds => Q (.lst (cut ds lo hi))

/-! ### promises -/
abbrev Ex := Xc → Ms → Prop
structure Spec where
  run : List D → Ms → (D → Ms → Prop) → Ex → Prop
  mono : ∀ {ds M Q Q' E E'}, run ds M Q E → (∀ d M', Q d M' → Q' d M') → (∀ e M', E e M' → E' e M') → run ds M Q' E'
/-- what stands behind names -/
structure Sm where
  fn : Nat → Spec
  glo : Nat → D
  /-- whether an exception of the kind is of the class -/
  sub : Nat → Nat → Bool
  /-- whether its argument is kept as a field -/
  kept : Nat → Bool
  /-- how many classes of exceptions there are -/
  ncl : Nat
  /-- functions that are handed on as values: how many they take -/
  held : Nat → Option Nat

def isTy (m : Sm) (d : D) (t : Ty) : Bool := match d, t with
  | .exc k _, .own j => m.sub k j
  | d, t => tyOf d t
/-- whether isinstance is told of such a value and such classes -/
def isKn (m : Sm) (d : D) (cs : List Ty) : Bool := match d with
  | .exc k fs => decide (k < m.ncl) && fs.isEmpty && cs.all fun c => match c with
    | .own j => decide (j < m.ncl)
    | _ => false
  | .fn _ => false
  | .tok _ => false
  | _ => cs.all fun c => match c with
    | .own _ => false
    | _ => true
def noX : Ex := fun _ _ => False
def val (r : Ro) (i : Nat) (Q : D → Prop) : Prop := match r[i]? with
  | some (.val d) => Q d
  | _ => False
def ownv (r : Ro) (i : Nat) (Q : List D → Prop) : Prop := match r[i]? with
  | some (.own ds) => Q ds
  | _ => False
def sets : List Nat → List D → Ro → Ro
  | i :: is, d :: ds, r => sets is ds (r.set i (.val d))
  | _, _, r => r
def bt (M : Ms) (t : Tg) (d : D) (r : Ro) (Q : Ro → Prop) : Prop := match t with
  | .nm i => i < r.length ∧ Q (r.set i (.val d))
  | .tp is => match d with
    | .tup ds => is.length = ds.length ∧ (∀ i ∈ is, i < r.length) ∧ Q (sets is ds r)
    | _ => False
def clr : List Nat → Ro → Ro
  | [], r => r
  | i :: is, r => (clr is r).set i .un
/-- a comprehension's turns -/
def cl (step : D → Ms → (Option D → Ms → Prop) → Prop) : List D → List D → Ms → (List D → Ms → Prop) → Prop
  | [], acc, M, Q => Q acc M
  | d :: ds, acc, M, Q => step d M fun o M' => cl step ds (match o with
    | some e => acc ++ [e]
    | none => acc) M' Q
def cturn (own : List Nat) (t : Tg) (r : Ro) (tc : Ro → Ms → (Bool → Ms → Prop) → Prop) (te : Ro → Ms → (D → Ms → Prop) → Prop) (d : D) (M : Ms) (k : Option D → Ms → Prop) : Prop :=
  bt M t d (clr own r) fun r' => tc r' M fun b M2 => if b = true then te r' M2 fun z M3 => k (some z) M3 else k none M2
def zipD : List D → List D → List D
  | x :: xs, y :: ys => .tup [x, y] :: zipD xs ys
  | _, _ => []
def enumD : Nat → List D → List D
  | _, [] => []
  | n, x :: xs => .tup [.int n, x] :: enumD (n + 1) xs
def rngD (lo : Int) : Nat → List D
  | 0 => []
  | n + 1 => .int lo :: rngD (lo + 1) n
def dctM (M : Ms) (d : D) : Option (Nat × List (Str × D)) := match d with
  | .tok k => match M[k]? with
    | some (.dct fs) => some (k, fs)
    | _ => none
  | _ => none
def lstM (M : Ms) (d : D) : Option (Nat × List D) := match d with
  | .tok k => match M[k]? with
    | some (.lst fs) => some (k, fs)
    | _ => none
  | _ => none
def fget (fs : List (Str × D)) (k : Str) : Option D := match fs with
  | [] => none
  | (n, d) :: fs => if n = k then some d else fget fs k
def fset (fs : List (Str × D)) (k : Str) (d : D) : List (Str × D) := match fs with
  | [] => []
  | (n, e) :: fs => if n = k then (n, d) :: fs else (n, e) :: fset fs k d
def wpop (M : Ms) (d : D) (Q : D → Ms → Prop) : Prop := opt (lstM M d) fun q => match q.2 with
  | d :: ds => Q d (M.set q.1 (.lst ds))
  | [] => False
/-- the exception's clause, told of the code table -/
def noOwn (r : Ro) : Ro := r.map fun s => match s with
  | .own _ => .un
  | s => s
def hasTab (M : Ms) (q : Nat) : Prop := match M[q]? with
  | some (.tab _) => True
  | _ => False
def perm (ks : List Nat) (ds : List D) : List D := ks.map fun k => ds.getD k .non

/-- an operand: a value, or an own list that is looked at -/
def opd (x : X) (r : Ro) (M : Ms) (w : (D → Ms → Prop) → Prop) (Q : D → Ms → Prop) : Prop := match x with
  | .pk i => ownv r i fun ds => Q (.lst ds) M
  | _ => w Q
/-- a slice's part -/
def prt (x : X) (M : Ms) (w : (D → Ms → Prop) → Prop) (Q : Option Int → Ms → Prop) : Prop := match x with
  | .nil => Q none M
  | _ => w fun d M' => wint d fun i => Q (some i) M'
/-- a comprehension's test -/
def tst (x : X) (M : Ms) (w : (D → Ms → Prop) → Prop) (Q : Bool → Ms → Prop) : Prop := match x with
  | .nil => Q true M
  | _ => w fun d M' => wb d fun k => Q k M'

mutual
/-- an expression's value -/
def wx (m : Sm) : X → Ex → Ro → Ms → (D → Ms → Prop) → Prop
  | .v i, _, r, M, Q => val r i fun d => Q d M
  | .non, _, _, M, Q => Q .non M
  | .bl b, _, _, M, Q => Q (.bl b) M
  | .int i, _, _, M, Q => Q (.int i) M
  | .str s, _, _, M, Q => Q (.str s) M
  | .glo k, _, _, M, Q => Q (m.glo k) M
  | .fnv k, _, _, M, Q => Q (.fn k) M
  | .tup x, E, r, M, Q => wl m x E r M fun ds M' => ds.length ≤ line ∧ Q (.tup ds) M'
  | .lst x, E, r, M, Q => wl m x E r M fun ds M' => ds.length ≤ line ∧ Q (.lst ds) M'
  | .p1 p a, E, r, M, Q => opd a r M (wx m a E r M) fun d M' => w1 M' p d fun e => Q e M'
  | .p2 p a b, E, r, M, Q => opd a r M (wx m a E r M) fun d M1 => opd b r M1 (wx m b E r M1) fun e M2 => w2 M2 p d e fun z => Q z M2
  | .chn p q a b c, E, r, M, Q => opd a r M (wx m a E r M) fun d M1 => opd b r M1 (wx m b E r M1) fun e M2 => w2 M2 p d e fun z => wb z fun k =>
      if k = true then opd c r M2 (wx m c E r M2) fun f M3 => w2 M3 q e f fun z' => Q z' M3 else Q (.bl false) M2
  | .isN n a, E, r, M, Q => wx m a E r M fun d M' => Q (.bl (xor n (isNon d))) M'
  | .isB n b a, E, r, M, Q => wx m a E r M fun d M' => wb d fun c => Q (.bl (xor n (decide (c = b)))) M'
  | .isi cs a, E, r, M, Q => wx m a E r M fun d M' => isKn m d cs = true ∧ Q (.bl (cs.any (isTy m d))) M'
  | .nt a, E, r, M, Q => wx m a E r M fun d M' => wb d fun k => Q (.bl (!k)) M'
  | .an a b, E, r, M, Q => wx m a E r M fun d M' => wb d fun k => if k = true then wx m b E r M' Q else Q (.bl false) M'
  | .or a b, E, r, M, Q => wx m a E r M fun d M' => wb d fun k => if k = true then Q (.bl true) M' else wx m b E r M' Q
  | .ife t a b, E, r, M, Q => wx m t E r M fun d M' => wb d fun k => if k = true then wx m a E r M' Q else wx m b E r M' Q
  | .sl a lo hi, E, r, M, Q => opd a r M (wx m a E r M) fun d M1 => prt lo M1 (wx m lo E r M1) fun l M2 => prt hi M2 (wx m hi E r M2) fun h M3 => wsl M3 d l h fun z => Q z M3
  | .call f x, E, r, M, Q => wl m x E r M fun ds M' => (m.fn f).run ds M' Q E
  | .callk f x ks, E, r, M, Q => wl m x E r M fun ds M' => (m.fn f).run (perm ks ds) M' Q E
  | .callv i x, E, r, M, Q => val r i fun d => match d with
      | .fn f => (m.held f).isSome = true ∧ wl m x E r M fun ds M' => m.held f = some ds.length ∧ (m.fn f).run ds M' Q E
      | _ => False
  | .comp own e t it c, E, r, M, Q => wi m it E r M fun ds M1 => ds.length ≤ line ∧
      cl (cturn own t r (fun r' M => tst c M (wx m c noX r' M)) fun r' M => wx m e noX r' M) ds [] M1 fun acc M' => Q (.lst acc) M'
  | .cau f e, _, r, M, Q => hasTab M 0 ∧ wx m e (fun x M' => m.sub x.k f = true ∧ Q (.exc x.k x.fs) M') (noOwn r) M fun _ M' => Q .non M'
  | .dget i k, _, r, M, Q => val r i fun d => opt (dctM M d) fun q => opt (fget q.2 k) fun e => Q e M
  | .pop0 i k, _, r, M, Q => val r i fun d => opt (dctM M d) fun q => opt (fget q.2 k) fun e => wpop M e Q
  | .tne i k, _, r, M, Q => val r i fun d => opt (dctM M d) fun q => opt (fget q.2 k) fun e => opt (lstM M e) fun t => dOks t.2 = true ∧ dDeps t.2 ≤ 50 ∧ Q (.bl (!t.2.isEmpty)) M
  | .mkd ks x, E, r, M, Q => wl m x E r M fun ds M' => (ks.length = ds.length ∧ ks.Nodup ∧ ks.length ≤ 15 ∧ ks ≠ []) ∧ Q (.tok M'.length) (M' ++ [.dct (ks.zip ds)])
  | _, _, _, _, _ => False
/-- a list of expressions -/
def wl (m : Sm) : X → Ex → Ro → Ms → (List D → Ms → Prop) → Prop
  | .nil, _, _, M, Q => Q [] M
  | .cons a x, E, r, M, Q => wx m a E r M fun d M1 => wl m x E r M1 fun ds M2 => Q (d :: ds) M2
  | _, _, _, _, _ => False
/-- what is walked -/
def wi (m : Sm) : X → Ex → Ro → Ms → (List D → Ms → Prop) → Prop
  | .iseq a, E, r, M, Q => opd a r M (wx m a E r M) fun d M' => opt (sqi d) fun ds => Q ds M'
  | .irng a, E, r, M, Q => wx m a E r M fun d M' => wint d fun i => i ≤ line ∧ -line ≤ i ∧ Q (rngD 0 i.toNat) M'
  | .irng2 a b, E, r, M, Q => wx m a E r M fun d M1 => wx m b E r M1 fun e M' => wint d fun i => wint e fun j => i ≤ line ∧ -line ≤ i ∧ j ≤ line ∧ -line ≤ j ∧ Q (rngD i (j - i).toNat) M'
  | .izip a b, E, r, M, Q => opd a r M (wx m a E r M) fun d M1 => opd b r M1 (wx m b E r M1) fun e M' => opt (sqi d) fun ds => opt (sqi e) fun es => Q (zipD ds es) M'
  | .ienum a, E, r, M, Q => opd a r M (wx m a E r M) fun d M' => opt (sqi d) fun ds => Q (enumD 0 ds) M'
  | _, _, _, _, _ => False
end
/-! ### statements -/
structure Kn where
  nx : Ro → Ms → Prop
  rt : D → Ms → Prop
  bk : Ro → Ms → Prop := fun _ _ => False
  ct : Ro → Ms → Prop := fun _ _ => False
/-- a for's turns -/
def fl (body : D → Ro → Ms → Kn → Prop) : List D → Ro → Ms → Kn → Prop
  | [], r, M, k => k.nx r M
  | d :: ds, r, M, k => body d r M { nx := fun r' M' => fl body ds r' M' k, rt := k.rt, bk := k.nx, ct := fun r' M' => fl body ds r' M' k }
/-- names stored at once; the flagged ones own their lists -/
def setp : List (Nat × Bool) → List D → Ro → Option Ro
  | [], [], r => some r
  | (i, false) :: ts, d :: ds, r => if i < r.length then setp ts ds (r.set i (.val d)) else none
  | (i, true) :: ts, .lst es :: ds, r => if i < r.length then setp ts ds (r.set i (.own es)) else none
  | _, _, _ => none
def ws (m : Sm) : S → Ex → Ro → Ms → Kn → Prop
  | .skip, _, r, M, k => k.nx r M
  | .pas, _, r, M, k => k.nx r M
  | .seq a b, E, r, M, k => ws m a E r M { k with nx := fun r' M' => ws m b E r' M' k }
  | .asg t x, E, r, M, k => wx m x E r M fun d M' => bt M' t d r fun r' => k.nx r' M'
  | .asgO i x, E, r, M, k => wx m x E r M fun d M' => match d with
      | .lst ds => i < r.length ∧ k.nx (r.set i (.own ds)) M'
      | _ => False
  | .par ts x, E, r, M, k => wl m x E r M fun ds M' => opt (setp ts ds r) fun r' => k.nx r' M'
  | .setI i j x, E, r, M, k => ownv r i fun ds => wx m x E r M fun d M1 => wx m j E r M1 fun e M2 => wint e fun n => opt (ixN ds.length n) fun q => k.nx (r.set i (.own (ds.set q d))) M2
  | .app i x, E, r, M, k => ownv r i fun ds => wx m x E r M fun d M' => ds.length < line ∧ k.nx (r.set i (.own (ds ++ [d]))) M'
  | .ext i x, E, r, M, k => ownv r i fun ds => opd x r M (wx m x E r M) fun d M' => match d with
      | .lst es => ds.length + es.length ≤ line ∧ k.nx (r.set i (.own (ds ++ es))) M'
      | _ => False
  | .popT t i, E, r, M, k => ownv r i fun ds => opt ds[ds.length - 1]? fun d => bt M t d (r.set i (.own ds.dropLast)) fun r' => k.nx r' M
  | .expr x, E, r, M, k => wx m x E r M fun _ M' => k.nx r M'
  | .aug i p x, E, r, M, k => val r i fun d => wx m x E r M fun e M' => wII d e fun a b => match p with
      | .add => k.nx (r.set i (.val (.int (a + b)))) M'
      | .sub => k.nx (r.set i (.val (.int (a - b)))) M'
      | _ => False
  | .ife c a b, E, r, M, k => wx m c E r M fun d M' => wb d fun q => if q = true then ws m a E r M' k else ws m b E r M' k
  | .for_ t it b, E, r, M, k => wi m it E r M fun ds M' => fl (fun d r M k' => bt M t d r fun r' => ws m b E r' M k') ds r M' k
  | .while_ c b, E, r, M, k => ∃ I : Nat → Ro → Ms → Prop, (∃ n, I n r M) ∧ ∀ n r M, I n r M → wx m c E r M fun d M' => wb d fun q =>
      if q = true then ws m b E r M' { nx := fun r' M'' => ∃ n', n' < n ∧ I n' r' M'', rt := k.rt, bk := k.nx, ct := fun r' M'' => ∃ n', n' < n ∧ I n' r' M'' } else k.nx r M'
  | .ret x, E, r, M, k => wx m x E r M fun d M' => k.rt d M'
  | .retN, _, _, M, k => k.rt .non M
  | .rais n x, E, r, M, _ => wl m x E r M fun ds M' => E ⟨n, if m.kept n = true then ds else []⟩ M'
  | .frz i s, E, r, M, k => ownv r i fun ds => ws m s E (r.set i (.val (.lst ds))) M k
  | .insr i j x, E, r, M, k => ownv r i fun ds => wx m j E r M fun e M1 => wx m x E r M1 fun d M2 => wint e fun n => 0 ≤ n ∧ n ≤ ds.length ∧ ds.length < line ∧ k.nx (r.set i (.own (ds.take n.toNat ++ d :: ds.drop n.toNat))) M2
  | .cont, _, r, M, k => k.ct r M
  | .brk, _, r, M, k => k.bk r M
  | .dset i k x, E, r, M, kn => wx m x E r M fun e M' => val r i fun d => opt (dctM M' d) fun q => opt (fget q.2 k) fun _ => (q.2.length ≤ 1000 ∧ (q.2.map (·.1)).Nodup) ∧ kn.nx r (M'.set q.1 (.dct (fset q.2 k e)))
  | .shr i s, E, r, M, k => ownv r i fun ds => ws m s E (r.set i (.val (.tok M.length))) (M ++ [.lst ds]) k
  | .bad, _, _, _, _ => False

/-! ### weakening -/
theorem opt_mono {α : Type} {o : Option α} {k k' : α → Prop} (h : opt o k) (q : ∀ a, k a → k' a) : opt o k' := by
  cases o with
  | none => exact h
  | some a => exact q a h
theorem wb_mono {d : D} {k k' : Bool → Prop} (h : wb d k) (q : ∀ b, k b → k' b) : wb d k' := by
  cases d <;> first | exact q _ h | exact h
theorem wint_mono {d : D} {k k' : Int → Prop} (h : wint d k) (q : ∀ b, k b → k' b) : wint d k' := by
  cases d <;> first | exact q _ h | exact h
theorem wII_mono {a b : D} {k k' : Int → Int → Prop} (h : wII a b k) (q : ∀ i j, k i j → k' i j) : wII a b k' :=
  wint_mono h fun i h => wint_mono h fun j h => q i j h
theorem val_mono {r : Ro} {i : Nat} {k k' : D → Prop} (h : val r i k) (q : ∀ d, k d → k' d) : val r i k' := by
  unfold val at h ⊢
  split
  · rename_i d e; rw [e] at h; exact q _ h
  · split at h
    · rename_i n _ d e; exact absurd e (n d)
    · exact h
theorem ownv_mono {r : Ro} {i : Nat} {k k' : List D → Prop} (h : ownv r i k) (q : ∀ d, k d → k' d) : ownv r i k' := by
  unfold ownv at h ⊢
  split
  · rename_i d e; rw [e] at h; exact q _ h
  · split at h
    · rename_i n _ d e; exact absurd e (n d)
    · exact h
theorem wpop_mono {M : Ms} {d : D} {Q Q' : D → Ms → Prop} (h : wpop M d Q) (q : ∀ d M, Q d M → Q' d M) : wpop M d Q' := opt_mono h fun t h => by
  revert h
  cases t.2 with
  | nil => exact fun h => h
  | cons d ds => exact fun h => q _ _ h
theorem w1_mono {M : Ms} {p : P1} {d : D} {Q Q' : D → Prop} (h : w1 M p d Q) (q : ∀ d, Q d → Q' d) : w1 M p d Q' := by
  cases p with
  | neg => exact wint_mono h fun i h => q _ h
  | len =>
    unfold w1 at h ⊢
    cases d <;> first | exact ⟨h.1, q _ h.2⟩ | exact opt_mono h fun _ h => q _ h
  | abs => exact wint_mono h fun i h => q _ h
  | toInt => unfold w1 at h ⊢; cases d <;> first | exact q _ h | exact h
  | tuple => exact opt_mono h fun _ h => q _ h
  | list => exact opt_mono h fun _ h => q _ h
  | sum => exact opt_mono h fun _ h => opt_mono h fun _ h => q _ h
  | all => exact opt_mono h fun _ h => opt_mono h fun _ h => q _ h
  | any => exact opt_mono h fun _ h => opt_mono h fun _ h => q _ h
  | rev =>
    unfold w1 at h ⊢
    cases d <;> first | exact q _ h | exact opt_mono h fun _ h => q _ h
theorem w2_mono {M : Ms} {p : P2} {a b : D} {Q Q' : D → Prop} (h : w2 M p a b Q) (q : ∀ d, Q d → Q' d) : w2 M p a b Q' := by
  cases p with
  | add => unfold w2 at h ⊢; cases a <;> cases b <;> first | exact h | exact q _ h | exact ⟨h.1, q _ h.2⟩ | exact ⟨h.1, h.2.1, q _ h.2.2⟩
  | mul => unfold w2 at h ⊢; cases a <;> cases b <;> first | exact h | exact q _ h | exact ⟨h.1, q _ h.2⟩ | exact ⟨h.1, h.2.1, h.2.2.1, q _ h.2.2.2⟩ | exact ⟨h.1, h.2.1, h.2.2.1, h.2.2.2.1, q _ h.2.2.2.2⟩
  | lt => unfold w2 at h ⊢; cases a <;> cases b <;> first | exact h | exact q _ h
  | eq => exact ⟨h.1, h.2.1, h.2.2.1, q _ h.2.2.2⟩
  | ne => exact ⟨h.1, h.2.1, h.2.2.1, q _ h.2.2.2⟩
  | ix => exact wint_mono h fun _ h => opt_mono h fun _ h => opt_mono h q
  | inn => exact opt_mono h fun _ h => ⟨h.1, h.2.1, h.2.2.1, q _ h.2.2.2⟩
  | nin => exact opt_mono h fun _ h => ⟨h.1, h.2.1, h.2.2.1, q _ h.2.2.2⟩
  | fdiv => exact wII_mono h fun _ _ h => ⟨h.1, q _ h.2⟩
  | mod => exact wII_mono h fun _ _ h => ⟨h.1, q _ h.2⟩
  | pow => exact wII_mono h fun _ _ h => ⟨h.1, q _ h.2⟩
  | sub => exact wII_mono h fun _ _ h => q _ h
  | le => exact wII_mono h fun _ _ h => q _ h
  | gt => exact wII_mono h fun _ _ h => q _ h
  | ge => exact wII_mono h fun _ _ h => q _ h
  | min2 => exact wII_mono h fun _ _ h => q _ h
  | max2 => exact wII_mono h fun _ _ h => q _ h
  | gcd => exact wII_mono h fun _ _ h => q _ h
theorem wsl_mono {M : Ms} {a : D} {lo hi : Option Int} {Q Q' : D → Prop} (h : wsl M a lo hi Q) (q : ∀ d, Q d → Q' d) : wsl M a lo hi Q' := by
  unfold wsl at h ⊢
  cases a <;> first | exact q _ h | exact opt_mono h fun _ h => q _ h
theorem bt_mono {M : Ms} {t : Tg} {d : D} {r : Ro} {Q Q' : Ro → Prop} (h : bt M t d r Q) (q : ∀ r, Q r → Q' r) : bt M t d r Q' := by
  unfold bt at h ⊢
  cases t with
  | nm i => exact ⟨h.1, q _ h.2⟩
  | tp is => cases d <;> first | exact h | exact ⟨h.1, h.2.1, q _ h.2.2⟩
theorem opd_mono {x : X} {r : Ro} {M : Ms} {w w' : (D → Ms → Prop) → Prop} {Q Q' : D → Ms → Prop} (h : opd x r M w Q) (hw : w Q → w' Q') (q : ∀ d M, Q d M → Q' d M) : opd x r M w' Q' := by
  unfold opd at h ⊢
  cases x <;> first | exact hw h | exact ownv_mono h fun _ h => q _ _ h
theorem prt_mono {x : X} {M : Ms} {w w' : (D → Ms → Prop) → Prop} {Q Q' : Option Int → Ms → Prop} (h : prt x M w Q) (hw : ∀ {P P' : D → Ms → Prop}, w P → (∀ d M, P d M → P' d M) → w' P') (q : ∀ d M, Q d M → Q' d M) : prt x M w' Q' := by
  unfold prt at h ⊢
  cases x <;> first | exact q _ _ h | exact hw h fun _ _ h => wint_mono h fun _ h => q _ _ h
theorem tst_mono {x : X} {M : Ms} {w w' : (D → Ms → Prop) → Prop} {Q Q' : Bool → Ms → Prop} (h : tst x M w Q) (hw : ∀ {P P' : D → Ms → Prop}, w P → (∀ d M, P d M → P' d M) → w' P') (q : ∀ d M, Q d M → Q' d M) : tst x M w' Q' := by
  unfold tst at h ⊢
  cases x <;> first | exact q _ _ h | exact hw h fun _ _ h => wb_mono h fun _ h => q _ _ h
theorem cl_mono {st st' : D → Ms → (Option D → Ms → Prop) → Prop} (hs : ∀ (d M k k'), st d M k → (∀ o M, k o M → k' o M) → st' d M k') : ∀ (ds acc : List D) (M : Ms) {Q Q' : List D → Ms → Prop}, cl st ds acc M Q → (∀ a M, Q a M → Q' a M) → cl st' ds acc M Q'
  | [], _, _, _, _, h, q => q _ _ h
  | d :: ds, acc, M, _, _, h, q => hs _ _ _ _ h fun _ _ h => cl_mono hs ds _ _ h q
theorem cturn_mono {own : List Nat} {t : Tg} {r : Ro} {tc tc' : Ro → Ms → (Bool → Ms → Prop) → Prop} {te te' : Ro → Ms → (D → Ms → Prop) → Prop} {d : D} {M : Ms} {k k' : Option D → Ms → Prop} (h : cturn own t r tc te d M k)
    (hc : ∀ {r M P P'}, tc r M P → (∀ b M', P b M' → P' b M') → tc' r M P') (he : ∀ {r M P P'}, te r M P → (∀ b M', P b M' → P' b M') → te' r M P') (q : ∀ o M', k o M' → k' o M') : cturn own t r tc' te' d M k' :=
  bt_mono h fun _ h => hc h fun b _ h => by
    cases b with
    | true => rw [if_pos rfl] at h ⊢; exact he h fun _ _ h => q _ _ h
    | false => rw [if_neg Bool.false_ne_true] at h ⊢; exact q _ _ h
def Le (E E' : Ex) : Prop := ∀ e M, E e M → E' e M
theorem Le.refl (E : Ex) : Le E E := fun _ _ h => h

mutual
theorem wx_mono {m : Sm} : ∀ (x : X) {E E' : Ex} {r : Ro} {M : Ms} {Q Q' : D → Ms → Prop}, wx m x E r M Q → Le E E' → (∀ d M', Q d M' → Q' d M') → wx m x E' r M Q'
  | .v i, _, _, _, _, _, _, h, _, q => val_mono h fun _ h => q _ _ h
  | .pk _, _, _, _, _, _, _, h, _, _ => h.elim
  | .non, _, _, _, _, _, _, h, _, q => q _ _ h
  | .bl _, _, _, _, _, _, _, h, _, q => q _ _ h
  | .int _, _, _, _, _, _, _, h, _, q => q _ _ h
  | .str _, _, _, _, _, _, _, h, _, q => q _ _ h
  | .glo _, _, _, _, _, _, _, h, _, q => q _ _ h
  | .fnv _, _, _, _, _, _, _, h, _, q => q _ _ h
  | .nil, _, _, _, _, _, _, h, _, _ => h.elim
  | .cons _ _, _, _, _, _, _, _, h, _, _ => h.elim
  | .tup x, _, _, _, _, _, _, h, e, q => wl_mono x h e fun _ _ h => ⟨h.1, q _ _ h.2⟩
  | .lst x, _, _, _, _, _, _, h, e, q => wl_mono x h e fun _ _ h => ⟨h.1, q _ _ h.2⟩
  | .p1 p a, _, _, _, _, _, _, h, e, q => opd_mono h (fun h => wx_mono a h e fun _ _ h => w1_mono h fun _ h => q _ _ h) fun _ _ h => w1_mono h fun _ h => q _ _ h
  | .p2 p a b, E, E', r, M, Q, Q', h, e, q => by
    have k : ∀ {d : D} {M : Ms}, opd b r M (wx m b E r M) (fun e M2 => w2 M2 p d e fun z => Q z M2) → opd b r M (wx m b E' r M) (fun e M2 => w2 M2 p d e fun z => Q' z M2) := fun h =>
      opd_mono h (fun h => wx_mono b h e fun _ _ h => w2_mono h fun _ h => q _ _ h) fun _ _ h => w2_mono h fun _ h => q _ _ h
    exact opd_mono h (fun h => wx_mono a h e fun _ _ h => k h) fun _ _ h => k h
  | .chn p p' a b c, E, E', r, M, Q, Q', h, e, q => by
    have k2 : ∀ {d : D} {M : Ms}, opd c r M (wx m c E r M) (fun e M2 => w2 M2 p' d e fun z => Q z M2) → opd c r M (wx m c E' r M) (fun e M2 => w2 M2 p' d e fun z => Q' z M2) := fun h =>
      opd_mono h (fun h => wx_mono c h e fun _ _ h => w2_mono h fun _ h => q _ _ h) fun _ _ h => w2_mono h fun _ h => q _ _ h
    have k3 : ∀ {d e : D} {M : Ms}, (w2 M p d e fun z => wb z fun k => if k = true then opd c r M (wx m c E r M) (fun f M3 => w2 M3 p' e f fun z => Q z M3) else Q (.bl false) M) → (w2 M p d e fun z => wb z fun k => if k = true then opd c r M (wx m c E' r M) (fun f M3 => w2 M3 p' e f fun z => Q' z M3) else Q' (.bl false) M) := fun h =>
      w2_mono h fun _ h => wb_mono h fun k h => by
        cases k with
        | true => rw [if_pos rfl] at h ⊢; exact k2 h
        | false => rw [if_neg Bool.false_ne_true] at h ⊢; exact q _ _ h
    have k1 : ∀ {d : D} {M : Ms}, opd b r M (wx m b E r M) (fun e M2 => w2 M2 p d e fun z => wb z fun k => if k = true then opd c r M2 (wx m c E r M2) (fun f M3 => w2 M3 p' e f fun z => Q z M3) else Q (.bl false) M2) → opd b r M (wx m b E' r M) (fun e M2 => w2 M2 p d e fun z => wb z fun k => if k = true then opd c r M2 (wx m c E' r M2) (fun f M3 => w2 M3 p' e f fun z => Q' z M3) else Q' (.bl false) M2) := fun h =>
      opd_mono h (fun h => wx_mono b h e fun _ _ h => k3 h) fun _ _ h => k3 h
    exact opd_mono h (fun h => wx_mono a h e fun _ _ h => k1 h) fun _ _ h => k1 h
  | .isN n a, _, _, _, _, _, _, h, e, q => wx_mono a h e fun _ _ h => q _ _ h
  | .isB n b a, _, _, _, _, _, _, h, e, q => wx_mono a h e fun _ _ h => wb_mono h fun _ h => q _ _ h
  | .isi cs a, _, _, _, _, _, _, h, e, q => wx_mono a h e fun _ _ h => ⟨h.1, q _ _ h.2⟩
  | .nt a, _, _, _, _, _, _, h, e, q => wx_mono a h e fun _ _ h => wb_mono h fun _ h => q _ _ h
  | .an a b, _, _, _, _, _, _, h, e, q => wx_mono a h e fun _ _ h => wb_mono h fun k h => by
      cases k with
      | true => rw [if_pos rfl] at h ⊢; exact wx_mono b h e q
      | false => rw [if_neg Bool.false_ne_true] at h ⊢; exact q _ _ h
  | .or a b, _, _, _, _, _, _, h, e, q => wx_mono a h e fun _ _ h => wb_mono h fun k h => by
      cases k with
      | true => rw [if_pos rfl] at h ⊢; exact q _ _ h
      | false => rw [if_neg Bool.false_ne_true] at h ⊢; exact wx_mono b h e q
  | .ife t a b, _, _, _, _, _, _, h, e, q => wx_mono t h e fun _ _ h => wb_mono h fun k h => by
      cases k with
      | true => rw [if_pos rfl] at h ⊢; exact wx_mono a h e q
      | false => rw [if_neg Bool.false_ne_true] at h ⊢; exact wx_mono b h e q
  | .sl a lo hi, E, E', r, M, Q, Q', h, e, q => by
    have k : ∀ {d : D} {M : Ms}, prt lo M (wx m lo E r M) (fun l M2 => prt hi M2 (wx m hi E r M2) fun h M3 => wsl M3 d l h fun z => Q z M3) → prt lo M (wx m lo E' r M) (fun l M2 => prt hi M2 (wx m hi E' r M2) fun h M3 => wsl M3 d l h fun z => Q' z M3) := fun h =>
      prt_mono h (fun h q => wx_mono lo h e q) fun _ _ h => prt_mono h (fun h q => wx_mono hi h e q) fun _ _ h => wsl_mono h fun _ h => q _ _ h
    exact opd_mono h (fun h => wx_mono a h e fun _ _ h => k h) fun _ _ h => k h
  | .call f x, _, _, _, _, _, _, h, e, q => wl_mono x h e fun _ _ h => (m.fn f).mono h q e
  | .callk f x ks, _, _, _, _, _, _, h, e, q => wl_mono x h e fun _ _ h => (m.fn f).mono h q e
  | .callv i x, _, _, _, _, _, _, h, e, q => val_mono h fun d h => by
      cases d <;> first | exact h | exact ⟨h.1, wl_mono x h.2 e fun _ _ h => ⟨h.1, (m.fn _).mono h.2 q e⟩⟩
  | .comp own el t it c, E, E', r, M, Q, Q', h, e, q => wi_mono it h e fun _ _ h => ⟨h.1, cl_mono (st' := cturn own t r (fun r' M => tst c M (wx m c noX r' M)) fun r' M => wx m el noX r' M) (fun d M k k' h q => cturn_mono (tc' := fun r' M => tst c M (wx m c noX r' M)) (te' := fun r' M => wx m el noX r' M) h (fun h q => tst_mono h (fun h q => wx_mono c h (Le.refl _) q) q) (fun h q => wx_mono el h (Le.refl _) q) q) _ _ _ h.2 fun _ _ h => q _ _ h⟩
  | .iseq _, _, _, _, _, _, _, h, _, _ => h.elim
  | .irng _, _, _, _, _, _, _, h, _, _ => h.elim
  | .irng2 _ _, _, _, _, _, _, _, h, _, _ => h.elim
  | .izip _ _, _, _, _, _, _, _, h, _, _ => h.elim
  | .ienum _, _, _, _, _, _, _, h, _, _ => h.elim
  | .cau f el, _, _, _, _, _, _, h, _, q => ⟨h.1, wx_mono el h.2 (fun _ _ h => ⟨h.1, q _ _ h.2⟩) fun _ _ h => q _ _ h⟩
  | .dget _ _, _, _, _, _, _, _, h, _, q => val_mono h fun _ h => opt_mono h fun _ h => opt_mono h fun _ h => q _ _ h
  | .pop0 _ _, _, _, _, _, _, _, h, _, q => val_mono h fun _ h => opt_mono h fun _ h => opt_mono h fun _ h => wpop_mono h q
  | .tne _ _, _, _, _, _, _, _, h, _, q => val_mono h fun _ h => opt_mono h fun _ h => opt_mono h fun _ h => opt_mono h fun _ h => ⟨h.1, h.2.1, q _ _ h.2.2⟩
  | .mkd _ x, _, _, _, _, _, _, h, e, q => wl_mono x h e fun _ _ h => ⟨h.1, q _ _ h.2⟩
  | .bad, _, _, _, _, _, _, h, _, _ => h.elim
theorem wl_mono {m : Sm} : ∀ (x : X) {E E' : Ex} {r : Ro} {M : Ms} {Q Q' : List D → Ms → Prop}, wl m x E r M Q → Le E E' → (∀ d M', Q d M' → Q' d M') → wl m x E' r M Q'
  | .nil, _, _, _, _, _, _, h, _, q => q _ _ h
  | .cons a x, _, _, _, _, _, _, h, e, q => wx_mono a h e fun _ _ h => wl_mono x h e fun _ _ h => q _ _ h
  | .v _, _, _, _, _, _, _, h, _, _ => h.elim
  | .pk _, _, _, _, _, _, _, h, _, _ => h.elim
  | .non, _, _, _, _, _, _, h, _, _ => h.elim
  | .bl _, _, _, _, _, _, _, h, _, _ => h.elim
  | .int _, _, _, _, _, _, _, h, _, _ => h.elim
  | .str _, _, _, _, _, _, _, h, _, _ => h.elim
  | .glo _, _, _, _, _, _, _, h, _, _ => h.elim
  | .fnv _, _, _, _, _, _, _, h, _, _ => h.elim
  | .tup _, _, _, _, _, _, _, h, _, _ => h.elim
  | .lst _, _, _, _, _, _, _, h, _, _ => h.elim
  | .p1 _ _, _, _, _, _, _, _, h, _, _ => h.elim
  | .p2 _ _ _, _, _, _, _, _, _, h, _, _ => h.elim
  | .chn _ _ _ _ _, _, _, _, _, _, _, h, _, _ => h.elim
  | .isN _ _, _, _, _, _, _, _, h, _, _ => h.elim
  | .isB _ _ _, _, _, _, _, _, _, h, _, _ => h.elim
  | .isi _ _, _, _, _, _, _, _, h, _, _ => h.elim
  | .nt _, _, _, _, _, _, _, h, _, _ => h.elim
  | .an _ _, _, _, _, _, _, _, h, _, _ => h.elim
  | .or _ _, _, _, _, _, _, _, h, _, _ => h.elim
  | .ife _ _ _, _, _, _, _, _, _, h, _, _ => h.elim
  | .sl _ _ _, _, _, _, _, _, _, h, _, _ => h.elim
  | .call _ _, _, _, _, _, _, _, h, _, _ => h.elim
  | .callk _ _ _, _, _, _, _, _, _, h, _, _ => h.elim
  | .callv _ _, _, _, _, _, _, _, h, _, _ => h.elim
  | .comp _ _ _ _ _, _, _, _, _, _, _, h, _, _ => h.elim
  | .iseq _, _, _, _, _, _, _, h, _, _ => h.elim
  | .irng _, _, _, _, _, _, _, h, _, _ => h.elim
  | .irng2 _ _, _, _, _, _, _, _, h, _, _ => h.elim
  | .izip _ _, _, _, _, _, _, _, h, _, _ => h.elim
  | .ienum _, _, _, _, _, _, _, h, _, _ => h.elim
  | .cau _ _, _, _, _, _, _, _, h, _, _ => h.elim
  | .dget _ _, _, _, _, _, _, _, h, _, _ => h.elim
  | .pop0 _ _, _, _, _, _, _, _, h, _, _ => h.elim
  | .tne _ _, _, _, _, _, _, _, h, _, _ => h.elim
  | .mkd _ _, _, _, _, _, _, _, h, _, _ => h.elim
  | .bad, _, _, _, _, _, _, h, _, _ => h.elim
theorem wi_mono {m : Sm} : ∀ (x : X) {E E' : Ex} {r : Ro} {M : Ms} {Q Q' : List D → Ms → Prop}, wi m x E r M Q → Le E E' → (∀ d M', Q d M' → Q' d M') → wi m x E' r M Q'
  | .iseq a, E, E', r, M, Q, Q', h, e, q => opd_mono (x := a) (r := r) (M := M) (w := wx m a E r M) (w' := wx m a E' r M) (Q := fun d M' => opt (sqi d) fun ds => Q ds M') (Q' := fun d M' => opt (sqi d) fun ds => Q' ds M') h (fun h => wx_mono a h e fun _ _ h => opt_mono h fun _ h => q _ _ h) fun _ _ h => opt_mono h fun _ h => q _ _ h
  | .irng a, _, _, _, _, _, _, h, e, q => wx_mono a h e fun _ _ h => wint_mono h fun _ h => ⟨h.1, h.2.1, q _ _ h.2.2⟩
  | .irng2 a b, _, _, _, _, _, _, h, e, q => wx_mono a h e fun _ _ h => wx_mono b h e fun _ _ h => wint_mono h fun _ h => wint_mono h fun _ h => ⟨h.1, h.2.1, h.2.2.1, h.2.2.2.1, q _ _ h.2.2.2.2⟩
  | .izip a b, E, E', r, M, Q, Q', h, e, q => by
    have k : ∀ {d : D} {M : Ms}, opd b r M (wx m b E r M) (fun e M' => opt (sqi d) fun ds => opt (sqi e) fun es => Q (zipD ds es) M') → opd b r M (wx m b E' r M) (fun e M' => opt (sqi d) fun ds => opt (sqi e) fun es => Q' (zipD ds es) M') := fun h =>
      opd_mono h (fun h => wx_mono b h e fun _ _ h => opt_mono h fun _ h => opt_mono h fun _ h => q _ _ h) fun _ _ h => opt_mono h fun _ h => opt_mono h fun _ h => q _ _ h
    exact opd_mono (x := a) (r := r) (M := M) (w := wx m a E r M) (w' := wx m a E' r M) (Q := fun d M1 => opd b r M1 (wx m b E r M1) fun e M' => opt (sqi d) fun ds => opt (sqi e) fun es => Q (zipD ds es) M') (Q' := fun d M1 => opd b r M1 (wx m b E' r M1) fun e M' => opt (sqi d) fun ds => opt (sqi e) fun es => Q' (zipD ds es) M') h (fun h => wx_mono a h e fun _ _ h => k h) fun _ _ h => k h
  | .ienum a, E, E', r, M, Q, Q', h, e, q => opd_mono (x := a) (r := r) (M := M) (w := wx m a E r M) (w' := wx m a E' r M) (Q := fun d M' => opt (sqi d) fun ds => Q (enumD 0 ds) M') (Q' := fun d M' => opt (sqi d) fun ds => Q' (enumD 0 ds) M') h (fun h => wx_mono a h e fun _ _ h => opt_mono h fun _ h => q _ _ h) fun _ _ h => opt_mono h fun _ h => q _ _ h
  | .nil, _, _, _, _, _, _, h, _, _ => h.elim
  | .cons _ _, _, _, _, _, _, _, h, _, _ => h.elim
  | .v _, _, _, _, _, _, _, h, _, _ => h.elim
  | .pk _, _, _, _, _, _, _, h, _, _ => h.elim
  | .non, _, _, _, _, _, _, h, _, _ => h.elim
  | .bl _, _, _, _, _, _, _, h, _, _ => h.elim
  | .int _, _, _, _, _, _, _, h, _, _ => h.elim
  | .str _, _, _, _, _, _, _, h, _, _ => h.elim
  | .glo _, _, _, _, _, _, _, h, _, _ => h.elim
  | .fnv _, _, _, _, _, _, _, h, _, _ => h.elim
  | .tup _, _, _, _, _, _, _, h, _, _ => h.elim
  | .lst _, _, _, _, _, _, _, h, _, _ => h.elim
  | .p1 _ _, _, _, _, _, _, _, h, _, _ => h.elim
  | .p2 _ _ _, _, _, _, _, _, _, h, _, _ => h.elim
  | .chn _ _ _ _ _, _, _, _, _, _, _, h, _, _ => h.elim
  | .isN _ _, _, _, _, _, _, _, h, _, _ => h.elim
  | .isB _ _ _, _, _, _, _, _, _, h, _, _ => h.elim
  | .isi _ _, _, _, _, _, _, _, h, _, _ => h.elim
  | .nt _, _, _, _, _, _, _, h, _, _ => h.elim
  | .an _ _, _, _, _, _, _, _, h, _, _ => h.elim
  | .or _ _, _, _, _, _, _, _, h, _, _ => h.elim
  | .ife _ _ _, _, _, _, _, _, _, h, _, _ => h.elim
  | .sl _ _ _, _, _, _, _, _, _, h, _, _ => h.elim
  | .call _ _, _, _, _, _, _, _, h, _, _ => h.elim
  | .callk _ _ _, _, _, _, _, _, _, h, _, _ => h.elim
  | .callv _ _, _, _, _, _, _, _, h, _, _ => h.elim
  | .comp _ _ _ _ _, _, _, _, _, _, _, h, _, _ => h.elim
  | .cau _ _, _, _, _, _, _, _, h, _, _ => h.elim
  | .dget _ _, _, _, _, _, _, _, h, _, _ => h.elim
  | .pop0 _ _, _, _, _, _, _, _, h, _, _ => h.elim
  | .tne _ _, _, _, _, _, _, _, h, _, _ => h.elim
  | .mkd _ _, _, _, _, _, _, _, h, _, _ => h.elim
  | .bad, _, _, _, _, _, _, h, _, _ => h.elim
end

def KLe (k k' : Kn) : Prop := (∀ r M, k.nx r M → k'.nx r M) ∧ (∀ d M, k.rt d M → k'.rt d M) ∧ (∀ r M, k.bk r M → k'.bk r M) ∧ ∀ r M, k.ct r M → k'.ct r M
theorem fl_mono {b b' : D → Ro → Ms → Kn → Prop} (hb : ∀ d r M k k', b d r M k → KLe k k' → b' d r M k') : ∀ (ds : List D) {r : Ro} {M : Ms} {k k' : Kn}, fl b ds r M k → KLe k k' → fl b' ds r M k'
  | [], _, _, _, _, h, q => q.1 _ _ h
  | d :: ds, _, _, _, _, h, q => hb _ _ _ _ _ h ⟨fun _ _ h => fl_mono hb ds h q, q.2.1, q.1, fun _ _ h => fl_mono hb ds h q⟩
theorem ws_mono {m : Sm} : ∀ (x : S) {E E' : Ex} {r : Ro} {M : Ms} {k k' : Kn}, ws m x E r M k → Le E E' → KLe k k' → ws m x E' r M k'
  | .skip, _, _, _, _, _, _, h, _, q => q.1 _ _ h
  | .pas, _, _, _, _, _, _, h, _, q => q.1 _ _ h
  | .seq a b, _, _, _, _, _, _, h, e, q => ws_mono a h e ⟨fun _ _ h => ws_mono b h e q, q.2.1, q.2.2.1, q.2.2.2⟩
  | .asg t x, _, _, _, _, _, _, h, e, q => wx_mono x h e fun _ _ h => bt_mono h fun _ h => q.1 _ _ h
  | .asgO i x, _, _, _, _, _, _, h, e, q => wx_mono x h e fun d _ h => by cases d <;> first | exact h | exact ⟨h.1, q.1 _ _ h.2⟩
  | .par ts x, _, _, _, _, _, _, h, e, q => wl_mono x h e fun _ _ h => opt_mono h fun _ h => q.1 _ _ h
  | .setI i j x, _, _, _, _, _, _, h, e, q => ownv_mono h fun _ h => wx_mono x h e fun _ _ h => wx_mono j h e fun _ _ h => wint_mono h fun _ h => opt_mono h fun _ h => q.1 _ _ h
  | .app i x, _, _, _, _, _, _, h, e, q => ownv_mono h fun _ h => wx_mono x h e fun _ _ h => ⟨h.1, q.1 _ _ h.2⟩
  | .ext i x, E, E', r, M, k, k', h, e, q => ownv_mono h fun _ h => opd_mono (x := x) (r := r) (M := M) (w := wx m x E r M) (w' := wx m x E' r M) h
      (fun h => wx_mono x h e fun d _ h => by cases d <;> first | exact h | exact ⟨h.1, q.1 _ _ h.2⟩) fun d _ h => by cases d <;> first | exact h | exact ⟨h.1, q.1 _ _ h.2⟩
  | .popT t i, _, _, _, _, _, _, h, _, q => ownv_mono h fun _ h => opt_mono h fun _ h => bt_mono h fun _ h => q.1 _ _ h
  | .expr x, _, _, _, _, _, _, h, e, q => wx_mono x h e fun _ _ h => q.1 _ _ h
  | .aug i p x, _, _, _, _, _, _, h, e, q => val_mono h fun _ h => wx_mono x h e fun _ _ h => wII_mono h fun _ _ h => by cases p <;> first | exact h | exact q.1 _ _ h
  | .ife c a b, _, _, _, _, _, _, h, e, q => wx_mono c h e fun _ _ h => wb_mono h fun k h => by
      cases k with
      | true => rw [if_pos rfl] at h ⊢; exact ws_mono a h e q
      | false => rw [if_neg Bool.false_ne_true] at h ⊢; exact ws_mono b h e q
  | .for_ t it b, E, E', r, M, k, k', h, e, q => wi_mono it h e fun ds M' h => fl_mono (b := fun d r M k' => bt M t d r fun r' => ws m b E r' M k') (b' := fun d r M k' => bt M t d r fun r' => ws m b E' r' M k') (fun _ _ _ _ _ h q => bt_mono h fun _ h => ws_mono b h e q) ds h q
  | .while_ c b, _, _, _, _, _, _, h, e, q => by
      obtain ⟨I, h0, h⟩ := h
      exact ⟨I, h0, fun n r M hi => wx_mono c (h n r M hi) e fun _ _ h => wb_mono h fun k h => by
        cases k with
        | true => rw [if_pos rfl] at h ⊢; exact ws_mono b h e ⟨fun _ _ h => h, q.2.1, q.1, fun _ _ h => h⟩
        | false => rw [if_neg Bool.false_ne_true] at h ⊢; exact q.1 _ _ h⟩
  | .ret x, _, _, _, _, _, _, h, e, q => wx_mono x h e fun _ _ h => q.2.1 _ _ h
  | .retN, _, _, _, _, _, _, h, _, q => q.2.1 _ _ h
  | .rais n x, _, _, _, _, _, _, h, e, _ => wl_mono x h e fun _ _ h => e _ _ h
  | .frz i s, _, _, _, _, _, _, h, e, q => ownv_mono h fun _ h => ws_mono s h e q
  | .cont, _, _, _, _, _, _, h, _, q => q.2.2.2 _ _ h
  | .brk, _, _, _, _, _, _, h, _, q => q.2.2.1 _ _ h
  | .dset i n x, _, _, _, _, _, _, h, e, q => wx_mono x h e fun _ _ h => val_mono h fun _ h => opt_mono h fun _ h => opt_mono h fun _ h => ⟨h.1, q.1 _ _ h.2⟩
  | .shr i s, _, _, _, _, _, _, h, e, q => ownv_mono h fun _ h => ws_mono s h e q
  | .insr i j x, _, _, _, _, _, _, h, e, q => ownv_mono h fun _ h => wx_mono j h e fun _ _ h => wx_mono x h e fun _ _ h => wint_mono h fun _ h => ⟨h.1, h.2.1, h.2.2.1, q.1 _ _ h.2.2.2⟩
  | .bad, _, _, _, _, _, _, h, _, _ => h.elim
end PV

set_option Elab.async false
set_option linter.all false
set_option maxRecDepth 100000
set_option maxHeartbeats 2000000
/-! PV part 3: operations on values, over the hand layer's rules. -/
namespace PV
open PySem PySem.Spec PyProof.Rows L2

/-- where one stands: the heap's parts -/
structure At (g : GC) (P : Addr → Prop) (al : List Addr) (H : Hp) (M : Ms) : Prop where
  ms : MsOk g al (msk H fun b => P b ∨ b ∈ al) H M
  pt : ∀ b, P b → (H b).isSome = true
noncomputable abbrev hp (P : Addr → Prop) (al : List Addr) (H : Hp) : Hp := msk H fun b => P b ∨ b ∈ al
/-- an operand's value -/
def RepO (g : GC) (P : Addr → Prop) (al : List Addr) (H : Hp) (d : D) (v : V) : Prop :=
  Rep g al (hp P al H) d v ∨ ∃ ds p vs, d = .lst ds ∧ v = .ref p ∧ H p = some (.lst vs) ∧ p ∉ al ∧ Reps g al (hp P al H) ds vs
/-- what is wanted of a value -/
def Post (g : GC) (P : Addr → Prop) (al : List Addr) (H : Hp) (Q : VK) (d : D) (M' : Ms) : Prop :=
  ∀ v H' al', Grow al H al' H' → MsOk g al' (hp P al' H') H' M' → Rep g al' (hp P al' H') d v → Q v H'
def PostO (g : GC) (P : Addr → Prop) (al : List Addr) (H : Hp) (Q : VK) (d : D) (M' : Ms) : Prop :=
  ∀ v H' al', Grow al H al' H' → MsOk g al' (hp P al' H') H' M' → RepO g P al' H' d v → Q v H'
section
variable {g : GC} {P : Addr → Prop} {al al' : List Addr} {H H' : Hp} {M M' : Ms} {d e : D} {ds : List D} {v : V} {Q : VK}
theorem MsOk.tracked (x : MsOk g al (hp P al H) H M) {a : Addr} (h : a ∈ al) : (H a).isSome = true := by
  obtain ⟨k, hk⟩ := List.getElem?_of_mem h
  have hl : k < M.length := by rw [← x.len]; exact (List.getElem?_eq_some_iff.mp hk).1
  have q := x.at_ k a _ hk (List.getElem?_eq_getElem hl)
  cases e : M[k] with
  | lst ds => rw [e] at q; obtain ⟨vs, h1, _⟩ := q; rw [h1]; rfl
  | dct fs => rw [e] at q; obtain ⟨vs, h1, _⟩ := q; rw [h1]; rfl
  | tab fs => rw [e] at q; obtain ⟨_, vs, h1, _⟩ := q; rw [h1]; rfl
theorem FsOk.mono {Hm Hm' : Hp} (s : Same Hm Hm') (p : al <+: al') : ∀ {fs : List (Str × D)} {kvs : List (Key × V)}, FsOk g al Hm fs kvs → FsOk g al' Hm' fs kvs
  | [], _, h => h
  | (n, d) :: fs, _, h => by
    obtain ⟨v, r, h1, h2, h3⟩ := h
    exact ⟨v, r, h1, h2.mono s p, FsOk.mono s p h3⟩
theorem MoOk.mono {Hm Hm' : Hp} {a : Addr} {mo : MO} (q : MoOk g al Hm H a mo) (s : Same Hm Hm') (p : al <+: al') (e : H' a = H a) : MoOk g al' Hm' H' a mo := by
  cases mo with
  | lst ds =>
    obtain ⟨vs, h3, h4⟩ := q
    exact ⟨vs, by rw [e]; exact h3, h4.mono s p⟩
  | dct fs =>
    obtain ⟨vs, h3, h4⟩ := q
    exact ⟨vs, by rw [e]; exact h3, h4.mono s p⟩
  | tab n =>
    obtain ⟨h0, ps, h3, h4, h5⟩ := q
    refine ⟨h0, ps, by rw [e]; exact h3, h4, fun pos cv hc => ?_⟩
    obtain ⟨c, e1, e2⟩ := h5 pos cv hc
    exact ⟨c, e1, s _ _ e2⟩
/-- a new object leaves the shared ones -/
theorem MsOk.upd (x : MsOk g al (hp P al H) H M) {p : Addr} {o : HO} (h : H p = none) : MsOk g al (hp P al (upd H p o)) (upd H p o) M := by
  have s := (Grow.upd (al := al) (o := o) h).msk P
  refine ⟨x.len, x.nd, fun k a m h1 h2 => ?_⟩
  have q := x.at_ k a m h1 h2
  have ne : a ≠ p := fun z => by
    have := x.tracked (List.mem_of_getElem? h1)
    rw [z, h] at this; cases this
  exact q.mono s (List.prefix_refl _) (upd_ne ne)
theorem At.upd (x : At g P al H M) {p : Addr} {o : HO} (h : H p = none) : At g P al (L2.upd H p o) M :=
  ⟨x.ms.upd h, fun b hb => by
    have := x.pt b hb
    by_cases e : b = p
    · subst e; rw [h] at this; cases this
    · rw [upd_ne e]; exact this⟩
theorem At.grow (x : At g P al H M) (hP : ∀ b, P b → b ∉ al) (gr : Grow al H al' H') (ms : MsOk g al' (hp P al' H') H' M') : At g P al' H' M' :=
  ⟨ms, fun b hb => by
    obtain ⟨o, ho⟩ := Option.isSome_iff_exists.mp (x.pt b hb)
    rw [gr.keep b o ho (hP b hb)]; rfl⟩
/-- a new place is seen -/
theorem At.seen (x : At g P al H M) {p : Addr} {o : HO} (h : H p = none) : hp P al (L2.upd H p o) p = some o := by
  unfold hp
  rw [msk_of, upd_same]
  rintro (z | z)
  · have := x.pt p z
    rw [h] at this; cases this
  · have := x.ms.tracked z
    rw [h] at this; cases this
theorem hp_same : Same (hp P al H) H := msk_same
theorem RepO.grow (gr : Grow al H al' H') (h : RepO g P al H d v) : RepO g P al' H' d v := by
  rcases h with h | ⟨ds, p, vs, e1, e2, h1, h2, h3⟩
  · exact .inl (h.mono (gr.msk P) gr.pre)
  · refine .inr ⟨ds, p, vs, e1, e2, gr.keep _ _ h1 h2, fun z => ?_, h3.mono (gr.msk P) gr.pre⟩
    have := gr.new p z h2
    rw [h1] at this; cases this
theorem Post.self (h : Post g P al H Q d M) (x : At g P al H M) (r : Rep g al (hp P al H) d v) : Q v H := h v H al (Grow.refl _ _) x.ms r
/-- a value that leans on nothing -/
theorem Post.new (h : Post g P al H Q d M) (x : At g P al H M) {p : Addr} {o : HO} (hn : H p = none) (r : Rep g al (hp P al (upd H p o)) d (.ref p)) : Q (.ref p) (upd H p o) :=
  h _ _ al (Grow.upd hn) (x.ms.upd hn) r
theorem Post.lst (h : Post g P al H Q (.lst ds) M) (x : At g P al H M) {vs : List V} (r : Reps g al (hp P al H) ds vs) : ∀ p, H p = none → Q (.ref p) (upd H p (.lst vs)) := fun p hn =>
  h.new x hn ⟨p, vs, rfl, x.seen hn, r.mono ((Grow.upd (al := al) hn).msk P) (List.prefix_refl _)⟩
theorem Post.tup (h : Post g P al H Q (.tup ds) M) (x : At g P al H M) {vs : List V} (r : Reps g al (hp P al H) ds vs) : ∀ p, H p = none → Q (.ref p) (upd H p (.tup vs)) := fun p hn =>
  h.new x hn ⟨p, vs, rfl, .inl (.inl (x.seen hn)), r.mono ((Grow.upd (al := al) hn).msk P) (List.prefix_refl _)⟩
theorem seqL (x : At g P al H M) (h : RepO g P al H d v) (e : sqL M d = some ds) : ∃ a vs, v = .ref a ∧ SqL g.K H a vs ∧ Reps g al (hp P al H) ds vs := by
  rcases h with h | ⟨ds', p, vs, e1, e2, h1, h2, h3⟩
  · cases d with
    | lst es =>
      cases (show some es = some ds from e)
      obtain ⟨a, vs, h1, h2, h3⟩ := h
      exact ⟨a, vs, h1, SqL.of (hp_same _ _ h2), h3⟩
    | scr ns =>
      cases (show some (ns.map D.int) = some ds from e)
      obtain ⟨a, h1, h2⟩ := h
      exact ⟨a, _, h1, Same.seq hp_same h2, reps_ints ns⟩
    | tok k =>
      obtain ⟨a, h1, h2⟩ := h
      have e : (match M[k]? with
        | some (.lst ds) => some ds
        | _ => none) = some ds := e
      cases hk : M[k]? with
      | none => rw [hk] at e; cases e
      | some mo =>
        rw [hk] at e
        cases mo with
        | dct _ => cases e
        | tab _ => cases e
        | lst es =>
          cases e
          obtain ⟨vs, h3, h4⟩ := x.ms.at_ k a _ h1 hk
          exact ⟨a, vs, h2, SqL.of h3, h4⟩
    | _ => cases e
  · subst e1
    cases (show some ds' = some ds from e)
    exact ⟨p, vs, e2, SqL.of h1, h3⟩
theorem seqA (x : At g P al H M) (h : RepO g P al H d v) (e : sq M d = some ds) : ∃ a vs, v = .ref a ∧ (SqL g.K H a vs ∨ SqT g.K H a vs) ∧ Reps g al (hp P al H) ds vs := by
  by_cases ht : ∃ es, d = .tup es
  · obtain ⟨es, rfl⟩ := ht
    cases (show some es = some ds from e)
    rcases h with h | ⟨ds', p, vs, e1, _⟩
    · obtain ⟨a, vs, h1, h2, h3⟩ := h
      exact ⟨a, vs, h1, .inr (sqT_mono hp_same h2), h3⟩
    · cases e1
  · have e' : sqL M d = some ds := by
      cases d <;> first | exact e | exact absurd ⟨_, rfl⟩ ht
    obtain ⟨a, vs, h1, h2, h3⟩ := seqL x h e'
    exact ⟨a, vs, h1, .inl h2, h3⟩
theorem repO_int {i : Int} (h : RepO g P al H (.int i) v) : v = .int i := by
  rcases h with h | ⟨_, _, _, e, _⟩
  · exact h
  · cases e
theorem repO_bl {i : Bool} (h : RepO g P al H (.bl i) v) : v = .bl i := by
  rcases h with h | ⟨_, _, _, e, _⟩
  · exact h
  · cases e
theorem repO_str {i : Str} (h : RepO g P al H (.str i) v) : v = .str i := by
  rcases h with h | ⟨_, _, _, e, _⟩
  · exact h
  · cases e
theorem repO_tup {ds : List D} (h : RepO g P al H (.tup ds) v) : Rep g al (hp P al H) (.tup ds) v := by
  rcases h with h | ⟨_, _, _, e, _⟩
  · exact h
  · cases e
theorem repO_lst {ds : List D} (h : RepO g P al H (.lst ds) v) : ∃ a vs, v = .ref a ∧ H a = some (.lst vs) ∧ Reps g al (hp P al H) ds vs := by
  rcases h with ⟨a, vs, h1, h2, h3⟩ | ⟨ds', p, vs, e1, e2, h1, h2, h3⟩
  · exact ⟨a, vs, h1, hp_same _ _ h2, h3⟩
  · cases e1; exact ⟨p, vs, e2, h1, h3⟩
theorem Reps.asInts : ∀ {ds : List D} {vs : List V} {ns : List Int}, Reps g al H ds vs → asInts ds = some ns → vs = ns.map V.int
  | [], _, ns, h, e => by cases (show some [] = some ns from e); exact h
  | d :: ds, vs, ns, h, e => by
    obtain ⟨v, r, rfl, h2, h3⟩ := h
    cases d <;> first | (unfold PV.asInts at e; cases e; done) | skip
    rename_i i
    have e' : (PV.asInts ds).map (i :: ·) = some ns := e
    cases q : PV.asInts ds with
    | none => rw [q] at e'; cases e'
    | some ms =>
      rw [q] at e'; cases e'
      rw [show v = V.int i from h2, h3.asInts q]; rfl
theorem Reps.asBls : ∀ {ds : List D} {vs : List V} {ns : List Bool}, Reps g al H ds vs → asBls ds = some ns → vs = ns.map V.bl
  | [], _, ns, h, e => by cases (show some [] = some ns from e); exact h
  | d :: ds, vs, ns, h, e => by
    obtain ⟨v, r, rfl, h2, h3⟩ := h
    cases d <;> first | (unfold PV.asBls at e; cases e; done) | skip
    rename_i i
    have e' : (PV.asBls ds).map (i :: ·) = some ns := e
    cases q : PV.asBls ds with
    | none => rw [q] at e'; cases e'
    | some ms =>
      rw [q] at e'; cases e'
      rw [show v = V.bl i from h2, h3.asBls q]; rfl
end

/-! ### equality -/
mutual
def py : D → PyData
  | .non => .none
  | .bl b => .bool b
  | .int i => .int i
  | .str s => .str s
  | .tup xs => .tuple (pys xs)
  | .lst xs => .list (pys xs)
  | _ => .none
def pys : List D → List PyData
  | [] => []
  | x :: xs => py x :: pys xs
end
mutual
theorem py_lay : ∀ (d : D), dOk d = true → PyData.canLay0 (py d) = true
  | .non, _ => rfl
  | .bl _, _ => rfl
  | .int _, _ => rfl
  | .str s, h => h
  | .tup xs, h => pys_lay xs h
  | .lst xs, h => pys_lay xs h
  | .scr _, h => by cases h
  | .fn _, h => by cases h
  | .exc _ _, h => by cases h
  | .tok _, h => by cases h
theorem pys_lay : ∀ (ds : List D), dOks ds = true → PyData.canLayAll0 (pys ds) = true
  | [], _ => rfl
  | d :: ds, h => by
    have h' : (dOk d && dOks ds) = true := h
    rw [Bool.and_eq_true] at h'
    show (PyData.canLay0 (py d) && PyData.canLayAll0 (pys ds)) = true
    rw [py_lay d h'.1, pys_lay ds h'.2]; rfl
end
mutual
theorem py_dep : ∀ (d : D), PyData.depth (py d) ≤ dDep d + 1
  | .non => by simp [py, PyData.depth]
  | .bl _ => by simp [py, PyData.depth]
  | .int _ => by simp [py, PyData.depth]
  | .str s => by simp [py, PyData.depth]
  | .tup xs => by have := pys_dep xs; simp only [py, PyData.depth, dDep]; omega
  | .lst xs => by have := pys_dep xs; simp only [py, PyData.depth, dDep]; omega
  | .scr _ => by simp [py, PyData.depth]
  | .fn _ => by simp [py, PyData.depth]
  | .exc _ _ => by simp [py, PyData.depth]
  | .tok _ => by simp [py, PyData.depth]
theorem pys_dep : ∀ (ds : List D), PyData.depthAll (pys ds) ≤ dDeps ds + 1
  | [] => by simp [pys, PyData.depthAll]
  | d :: ds => by
    have h1 := py_dep d
    have h2 := pys_dep ds
    simp only [pys, PyData.depthAll, dDeps]
    omega
end
mutual
theorem py_eqv : ∀ (d e : D), dOk d = true → dOk e = true → PyData.eqv (py d) (py e) = dEq d e
  | .non, e, _, he => by cases e <;> first | rfl | cases he
  | .bl b, e, _, he => by cases e <;> first | rfl | cases he
  | .int b, e, _, he => by cases e <;> first | rfl | cases he
  | .str b, e, _, he => by cases e <;> first | rfl | cases he
  | .tup xs, e, hd, he => by
    cases e with
    | tup ys => exact pys_eqv xs ys hd he
    | _ => first | rfl | cases he
  | .lst xs, e, hd, he => by
    cases e with
    | lst ys => exact pys_eqv xs ys hd he
    | _ => first | rfl | cases he
  | .scr _, _, h, _ => by cases h
  | .fn _, _, h, _ => by cases h
  | .exc _ _, _, h, _ => by cases h
  | .tok _, _, h, _ => by cases h
theorem pys_eqv : ∀ (ds es : List D), dOks ds = true → dOks es = true → PyData.eqvAll (pys ds) (pys es) = dEqs ds es
  | [], [], _, _ => rfl
  | [], _ :: _, _, _ => rfl
  | _ :: _, [], _, _ => rfl
  | d :: ds, e :: es, h, k => by
    have h' : (dOk d && dOks ds) = true := h
    have k' : (dOk e && dOks es) = true := k
    rw [Bool.and_eq_true] at h' k'
    show (PyData.eqv (py d) (py e) && PyData.eqvAll (pys ds) (pys es)) = (dEq d e && dEqs ds es)
    rw [py_eqv d e h'.1 k'.1, pys_eqv ds es h'.2 k'.2]
end
section
variable {g : GC} {P : Addr → Prop} {al : List Addr} {H : Hp} {Hm : Hp}
mutual
theorem rep_dp (s : Same Hm H) : ∀ (d : D) {v : V}, dOk d = true → Rep g al Hm d v → Dp g.K H v (py d)
  | .non, v, _, h => by cases (show v = _ from h); exact .non
  | .bl b, v, _, h => by cases (show v = _ from h); exact .bl b
  | .int b, v, _, h => by cases (show v = _ from h); exact .int b
  | .str b, v, _, h => by cases (show v = _ from h); exact .str b
  | .tup xs, v, hd, h => by
    obtain ⟨a, vs, rfl, h2, h3⟩ := h
    exact .tup (sqT_mono s h2) (reps_dp s xs hd h3)
  | .lst xs, v, hd, h => by
    obtain ⟨a, vs, rfl, h2, h3⟩ := h
    exact .lst (SqL.of (s _ _ h2)) (reps_dp s xs hd h3)
  | .scr _, _, h, _ => by cases h
  | .fn _, _, h, _ => by cases h
  | .exc _ _, _, h, _ => by cases h
  | .tok _, _, h, _ => by cases h
theorem reps_dp (s : Same Hm H) : ∀ (ds : List D) {vs : List V}, dOks ds = true → Reps g al Hm ds vs → DpAll g.K H vs (pys ds)
  | [], _, _, h => by cases (show _ = [] from h); exact .nil
  | d :: ds, _, h, k => by
    have h' : (dOk d && dOks ds) = true := h
    rw [Bool.and_eq_true] at h'
    obtain ⟨v, r, rfl, h2, h3⟩ := k
    exact .cons (rep_dp s d h'.1 h2) (reps_dp s ds h'.2 h3)
end
theorem repO_dp {d : D} {v : V} (hd : dOk d = true) (h : RepO g P al H d v) : Dp g.K H v (py d) := by
  rcases h with h | ⟨ds, p, vs, e1, e2, h1, h2, h3⟩
  · exact rep_dp hp_same d hd h
  · subst e1 e2
    exact .lst (SqL.of h1) (reps_dp hp_same ds hd h3)
end
section
variable {X : Cx}
/-- ==, != at any depth, where the lesser depth is small -/
def rEqP (K : PySem.W.Frag) (neg : Bool) : R2 := fun x y H Q => ∃ d e, Dp K H x d ∧ Dp K H y e ∧ d.canLay0 = true ∧ e.canLay0 = true ∧ min d.depth e.depth ≤ 64 ∧ Q (.bl (xor neg (PyData.eqv d e))) H
theorem op_eqP (hu : X.A.units + 64 < cLine) : OpR X (compareOp .Eq) (rEqP X.K false) := by
  intro pins s σ H x y v u Q I rx ry h
  obtain ⟨d, e, hd, he, sd, se, hm, q⟩ := h
  obtain ⟨as, r1⟩ := Dp.reads I d x v hd rx
  obtain ⟨bs, r2⟩ := Dp.reads I e y u he ry
  exact SeqAt.compareEq_reads r1 r2 sd se (by omega) ⟨.bl _, H, I, rfl, by simpa using q⟩
theorem op_neP (hu : X.A.units + 64 < cLine) : OpR X (compareOp .NotEq) (rEqP X.K true) := by
  intro pins s σ H x y v u Q I rx ry h
  obtain ⟨d, e, hd, he, sd, se, hm, q⟩ := h
  obtain ⟨as, r1⟩ := Dp.reads I d x v hd rx
  obtain ⟨bs, r2⟩ := Dp.reads I e y u he ry
  exact SeqAt.compareNe_reads r1 r2 sd se (by omega) ⟨.bl _, H, I, rfl, by simpa using q⟩
/-- in, not in -/
def rInP (K : PySem.W.Frag) (neg : Bool) : R2 := fun x y H Q => ∃ d ds a ys, y = .ref a ∧ (SqL K H a ys ∨ SqT K H a ys) ∧ DpAll K H ys ds ∧ Dp K H x d ∧ d.canLay0 = true ∧ PyData.canLayAll0 ds = true ∧ min (PyData.depthAll ds) d.depth ≤ 62 ∧
  Q (.bl (xor neg (ds.any fun y => PyData.eqv y d))) H
theorem op_inP (hu : X.A.units + 64 < cLine) : OpR X (compareOp .In) (rInP X.K false) := by
  intro pins s σ H x y v u Q I rx ry h
  obtain ⟨d, ds, a, ys, rfl, hs, ha, hd, l1, l2, hm, q⟩ := h
  obtain ⟨as, r1⟩ := Dp.reads I d x v hd rx
  rcases hs with hs | hs
  · obtain ⟨bs, r2⟩ := Dp.reads I (.list ds) (.ref a) u (.lst hs ha) ry
    exact SeqAt.in_list_reads r2 r1 l2 l1 (by omega) ⟨.bl _, H, I, rfl, by simpa using q⟩
  · obtain ⟨bs, r2⟩ := Dp.reads I (.tuple ds) (.ref a) u (.tup hs ha) ry
    exact SeqAt.in_tuple_reads r2 r1 l2 l1 (by omega) ⟨.bl _, H, I, rfl, by simpa using q⟩
theorem op_ninP (hu : X.A.units + 64 < cLine) : OpR X (compareOp .NotIn) (rInP X.K true) := by
  intro pins s σ H x y v u Q I rx ry h
  obtain ⟨d, ds, a, ys, rfl, hs, ha, hd, l1, l2, hm, q⟩ := h
  obtain ⟨as, r1⟩ := Dp.reads I d x v hd rx
  rcases hs with hs | hs
  · obtain ⟨bs, r2⟩ := Dp.reads I (.list ds) (.ref a) u (.lst hs ha) ry
    exact SeqAt.notIn_list_reads r2 r1 l2 l1 (by omega) ⟨.bl _, H, I, rfl, by simpa using q⟩
  · obtain ⟨bs, r2⟩ := Dp.reads I (.tuple ds) (.ref a) u (.tup hs ha) ry
    exact SeqAt.notIn_tuple_reads r2 r1 l2 l1 (by omega) ⟨.bl _, H, I, rfl, by simpa using q⟩
end
end PV

set_option Elab.async false
set_option linter.all false
set_option maxRecDepth 100000
set_option maxHeartbeats 2000000
/-! PV part 3b: each operation's reading follows from what is asked of values. -/
namespace PV
open PySem PySem.Spec PyProof.Rows L2
theorem line_le : line ≤ sizeLine := by rw [sizeLine_eq]; decide
theorem mulC_ok {i j : Int} (h : MulC i j) : IntMulOk i j := by
  have b : ∀ x : Int, Builtin.Int.intBits x ≤ x.natAbs.log2 + 1 := fun x => by
    unfold Builtin.Int.intBits
    split <;> omega
  have h1 := b i
  have h2 := b j
  have h3 : i.natAbs.log2 + j.natAbs.log2 < 100000000 := h
  have e : bitsLine = 134217728 := by decide
  unfold IntMulOk
  intro z
  rw [Bool.and_eq_true] at z
  have z2 := z.2
  unfold Builtin.Int.intTooBig at z2
  have z3 := of_decide_eq_true z2
  rw [e] at z3
  omega
/-! ### rules for operators -/
section
variable {X : Cx}
theorem op_mulP : OpR X (binaryOp .Mult) (rI MulC fun i j => .int (i * j)) := opI fun _ _ _ _ _ _ _ hc q => mul_int q (mulC_ok hc)
theorem op_fdivP : OpR X (binaryOp .FloorDiv) (rI (fun _ j => j ≠ 0 ∧ j.natAbs.log2 < 9000) fun i j => .int (i.fdiv j)) := opI fun _ _ _ _ _ _ _ hc q => floordiv_int hc.1 q (.inl (PyProof.noPylong_of_log2 hc.2))
def rAddS : R2 := fun x y H Q => ∃ i j, x = .str i ∧ y = .str j ∧ i.length + j.length ≤ sizeLine ∧ Q (.str (i ++ j)) H
def rLtS : R2 := fun x y H Q => ∃ i j, x = .str i ∧ y = .str j ∧ Q (.bl (decide (i.cps.toList < j.cps.toList))) H
def binop : P2 → Option Operator
  | .add => some .Add
  | .sub => some .Sub
  | .mul => some .Mult
  | .fdiv => some .FloorDiv
  | .mod => some .Mod
  | .pow => some .Pow
  | _ => none
def cmpop : P2 → Option CmpOp
  | .eq => some .Eq
  | .ne => some .NotEq
  | .lt => some .Lt
  | .le => some .LtE
  | .gt => some .Gt
  | .ge => some .GtE
  | .inn => some .In
  | .nin => some .NotIn
  | _ => none
/-- the reading of an operation -/
def r2 (K : PySem.W.Frag) : P2 → R2
  | .add => fun x y H Q => rI0 (fun i j => .int (i + j)) x y H Q ∨ rAddS x y H Q ∨ rCatA K x y H Q ∨ rCat x y H Q
  | .sub => rI0 fun i j => .int (i - j)
  | .mul => fun x y H Q => rI MulC (fun i j => .int (i * j)) x y H Q ∨ rRep x y H Q ∨ rRepT K x y H Q
  | .fdiv => rI (fun _ j => j ≠ 0 ∧ j.natAbs.log2 < 9000) fun i j => .int (i.fdiv j)
  | .mod => rI (fun _ j => j ≠ 0) fun i j => .int (i.fmod j)
  | .pow => rI CPow fun i j => .int (i ^ j.toNat)
  | .eq => rEqP K false
  | .ne => rEqP K true
  | .lt => fun x y H Q => rI0 (fun i j => .bl (decide (i < j))) x y H Q ∨ rLtS x y H Q
  | .le => rI0 fun i j => .bl (decide (i ≤ j))
  | .gt => rI0 fun i j => .bl (decide (j < i))
  | .ge => rI0 fun i j => .bl (decide (j ≤ i))
  | .ix => fun x y H Q => rIxL K x y H Q ∨ rIxT K x y H Q
  | .inn => rInP K false
  | .nin => rInP K true
  | .min2 => fun x y H Q => ∃ i j, [x, y] = [.int i, .int j] ∧ Q (.int (if j < i then j else i)) H
  | .max2 => fun x y H Q => ∃ i j, [x, y] = [.int i, .int j] ∧ Q (.int (if j > i then j else i)) H
  | .gcd => fun x y H Q => rGcd [x, y] H Q
theorem r2_bin {p : P2} {o : Operator} (h : binop p = some o) : OpR X (binaryOp o) (r2 X.K p) := by
  cases p <;> first | (cases h; done) | skip
  · cases h; exact op_add.or (op_add_str.or (op_catA.or op_cat))
  · cases h; exact op_sub
  · cases h; exact op_mulP.or (op_rep.or op_repT)
  · cases h; exact op_fdivP
  · cases h; exact op_modN
  · cases h; exact op_pow
theorem r2_cmp {p : P2} {o : CmpOp} (hu : X.A.units + 64 < cLine) (h : cmpop p = some o) : OpR X (compareOp o) (r2 X.K p) := by
  cases p <;> first | (cases h; done) | skip
  · cases h; exact op_eqP hu
  · cases h; exact op_neP hu
  · cases h; exact op_lt.or op_lt_str
  · cases h; exact op_le
  · cases h; exact op_gt
  · cases h; exact op_ge
  · cases h; exact op_inP hu
  · cases h; exact op_ninP hu
end
theorem wint_el {d : D} {k : Int → Prop} (h : wint d k) : ∃ i, d = .int i ∧ k i := by
  cases d <;> first | exact ⟨_, rfl, h⟩ | exact h.elim
theorem wII_el {a b : D} {k : Int → Int → Prop} (h : wII a b k) : ∃ i j, a = .int i ∧ b = .int j ∧ k i j := by
  obtain ⟨i, e1, h⟩ := wint_el h
  obtain ⟨j, e2, h⟩ := wint_el h
  exact ⟨i, j, e1, e2, h⟩
theorem wb_el {d : D} {k : Bool → Prop} (h : wb d k) : ∃ i, d = .bl i ∧ k i := by
  cases d <;> first | exact ⟨_, rfl, h⟩ | exact h.elim
section
variable {g : GC} {P : Addr → Prop} {al : List Addr} {H : Hp} {M : Ms} {d e : D} {v u : V} {Q : VK}
theorem reps_flat {ds : List D} {vs : List V} (h : Reps g al H ds vs) : ∀ k : Nat, Reps g al H (List.replicate k ds).flatten (List.replicate k vs).flatten
  | 0 => rfl
  | k + 1 => by
    rw [List.replicate_succ, List.replicate_succ, List.flatten_cons, List.flatten_cons]
    exact h.append (reps_flat h k)
theorem atI_len {α : Type} {xs : List α} {β : Type} {ys : List β} {i : Int} {x : α} (hl : ys.length = xs.length) (h : atI xs i = some x) : ∃ j : Nat, xs[j]? = some x ∧ ∀ y : β, ys[j]? = some y → atI ys i = some y := by
  unfold atI at h
  cases e : ixN xs.length i with
  | none => rw [e] at h; cases h
  | some j =>
    rw [e] at h
    refine ⟨j, h, fun y hy => ?_⟩
    unfold atI
    rw [hl, e]
    exact hy
theorem w2_ok {p : P2} (x : At g P al H M) (hd : RepO g P al H d v) (he : RepO g P al H e u) (h : w2 M p d e fun z => Post g P al H Q z M) : r2 g.K p v u H Q := by
  cases p with
  | add =>
    cases d <;> cases e <;> first | exact (show False from h).elim | skip
    · have h : Post g P al H Q (.int (_ + _)) M := h
      exact .inl ⟨_, _, repO_int hd, repO_int he, h.self x rfl⟩
    · obtain ⟨h1, h⟩ := h
      exact .inr (.inl ⟨_, _, repO_str hd, repO_str he, Nat.le_trans h1 line_le, h.self x rfl⟩)
    · rename_i xs ys
      obtain ⟨a, vs, rfl, h2, h3⟩ := repO_tup hd
      obtain ⟨b, us, rfl, h5, h6⟩ := repO_tup he
      obtain ⟨hl, hq⟩ := h
      have l1 := h3.length
      have l2 := h6.length
      refine .inr (.inr (.inl ⟨a, b, vs, us, rfl, rfl, sqT_mono hp_same h2, sqT_mono hp_same h5, by rw [l1, l2]; exact Nat.le_trans hl line_le, fun e => ?_, fun _ e => ?_, fun _ _ => hq.tup x (h3.append h6)⟩))
      · subst e
        have : xs = [] := List.length_eq_zero_iff.mp l1.symm
        subst this
        exact hq.self x ⟨b, us, rfl, h5, h6⟩
      · subst e
        have : ys = [] := List.length_eq_zero_iff.mp l2.symm
        subst this
        exact hq.self x ⟨a, vs, rfl, h2, by rw [List.append_nil]; exact h3⟩
    · rename_i xs ys
      obtain ⟨a, vs, rfl, h2, h3⟩ := repO_lst hd
      obtain ⟨b, us, rfl, h5, h6⟩ := repO_lst he
      obtain ⟨hl, hq⟩ := h
      exact .inr (.inr (.inr ⟨a, b, vs, us, rfl, rfl, h2, h5, by rw [h3.length, h6.length]; exact Nat.le_trans hl line_le, hq.lst x (h3.append h6)⟩))
  | sub =>
    obtain ⟨i, j, rfl, rfl, h⟩ := wII_el h
    exact ⟨i, j, repO_int hd, repO_int he, h.self x rfl⟩
  | mul =>
    cases d <;> cases e <;> first | exact (show False from h).elim | skip
    · obtain ⟨h1, h⟩ := h
      exact .inl ⟨_, _, repO_int hd, repO_int he, h1, h.self x rfl⟩
    · rename_i xs k
      obtain ⟨a, vs, rfl, h2, h3⟩ := repO_tup hd
      obtain ⟨hl, k1, k2, k3, hq⟩ := h
      refine .inr (.inr ⟨a, k, vs, rfl, repO_int he, sqT_mono hp_same h2, fun z => hl ?_, k1, k2, by rw [h3.length]; exact k3, hq.tup x (reps_flat h3 _)⟩)
      have := h3.length
      rw [z] at this
      exact List.length_eq_zero_iff.mp this.symm
    · rename_i xs k
      obtain ⟨a, vs, rfl, h2, h3⟩ := repO_lst hd
      obtain ⟨hl, k1, k2, hq⟩ := h
      refine .inr (.inl ⟨a, k, vs, rfl, repO_int he, h2, by unfold line at k2; omega, by unfold line at k1; omega, by rw [h3.length]; exact Nat.le_trans hl line_le, hq.lst x (reps_flat h3 _)⟩)
  | fdiv =>
    obtain ⟨i, j, rfl, rfl, h⟩ := wII_el h
    exact ⟨i, j, repO_int hd, repO_int he, h.1, h.2.self x rfl⟩
  | mod =>
    obtain ⟨i, j, rfl, rfl, h⟩ := wII_el h
    exact ⟨i, j, repO_int hd, repO_int he, h.1, h.2.self x rfl⟩
  | pow =>
    obtain ⟨i, j, rfl, rfl, h⟩ := wII_el h
    exact ⟨i, j, repO_int hd, repO_int he, ⟨h.1.1, by have := h.1.2.1; omega, h.1.2.2⟩, h.2.self x rfl⟩
  | eq =>
    obtain ⟨h1, h2, h3, h⟩ := h
    refine ⟨py d, py e, repO_dp h1 hd, repO_dp h2 he, py_lay _ h1, py_lay _ h2, ?_, ?_⟩
    · have := py_dep d; have := py_dep e; omega
    · rw [py_eqv _ _ h1 h2]; exact h.self x (by simp [Rep])
  | ne =>
    obtain ⟨h1, h2, h3, h⟩ := h
    refine ⟨py d, py e, repO_dp h1 hd, repO_dp h2 he, py_lay _ h1, py_lay _ h2, ?_, ?_⟩
    · have := py_dep d; have := py_dep e; omega
    · rw [py_eqv _ _ h1 h2]; exact h.self x (by simp [Rep])
  | lt =>
    cases d <;> cases e <;> first | exact (show False from h).elim | skip
    · have h : Post g P al H Q (.bl (decide (_ < _))) M := h
      exact .inl ⟨_, _, repO_int hd, repO_int he, h.self x rfl⟩
    · have h : Post g P al H Q (.bl (decide (_ < _))) M := h
      exact .inr ⟨_, _, repO_str hd, repO_str he, h.self x rfl⟩
  | le =>
    obtain ⟨i, j, rfl, rfl, h⟩ := wII_el h
    exact ⟨i, j, repO_int hd, repO_int he, h.self x rfl⟩
  | gt =>
    obtain ⟨i, j, rfl, rfl, h⟩ := wII_el h
    exact ⟨i, j, repO_int hd, repO_int he, h.self x rfl⟩
  | ge =>
    obtain ⟨i, j, rfl, rfl, h⟩ := wII_el h
    exact ⟨i, j, repO_int hd, repO_int he, h.self x rfl⟩
  | ix =>
    obtain ⟨i, rfl, h⟩ := wint_el h
    obtain ⟨ds, hs, h⟩ := opt_iff.mp h
    obtain ⟨z, hz, h⟩ := opt_iff.mp h
    obtain ⟨a, vs, rfl, h1, h2⟩ := seqA x hd hs
    obtain ⟨j, hj, hy⟩ := atI_len h2.length hz
    obtain ⟨w, hw, rw'⟩ := h2.get hj
    have hq := h.self x rw'
    rcases h1 with h1 | h1
    · exact .inl ⟨a, vs, i, w, rfl, repO_int he, h1, hy w hw, hq⟩
    · exact .inr ⟨a, vs, i, w, rfl, repO_int he, h1, hy w hw, hq⟩
  | inn =>
    obtain ⟨ds, hs, h1, h2, h3, h⟩ := opt_iff.mp h
    obtain ⟨a, vs, rfl, h4, h5⟩ := seqA x he hs
    refine ⟨py d, pys ds, a, vs, rfl, h4, reps_dp hp_same ds h2 h5, repO_dp h1 hd, py_lay _ h1, pys_lay _ h2, ?_, ?_⟩
    · have := py_dep d; have := pys_dep ds; omega
    · have key : ∀ es : List D, dOks es = true → ((pys es).any fun y => PyData.eqv y (py d)) = es.any fun y => dEq y d := by
        intro es
        induction es with
        | nil => intro _; rfl
        | cons y ys ih =>
          intro hk
          have hk : (dOk y && dOks ys) = true := hk
          rw [Bool.and_eq_true] at hk
          simp only [pys, List.any_cons, ih hk.2, py_eqv y d hk.1 h1]
      rw [key ds h2]; exact h.self x (by simp [Rep])
  | nin =>
    obtain ⟨ds, hs, h1, h2, h3, h⟩ := opt_iff.mp h
    obtain ⟨a, vs, rfl, h4, h5⟩ := seqA x he hs
    refine ⟨py d, pys ds, a, vs, rfl, h4, reps_dp hp_same ds h2 h5, repO_dp h1 hd, py_lay _ h1, pys_lay _ h2, ?_, ?_⟩
    · have := py_dep d; have := pys_dep ds; omega
    · have key : ∀ es : List D, dOks es = true → ((pys es).any fun y => PyData.eqv y (py d)) = es.any fun y => dEq y d := by
        intro es
        induction es with
        | nil => intro _; rfl
        | cons y ys ih =>
          intro hk
          have hk : (dOk y && dOks ys) = true := hk
          rw [Bool.and_eq_true] at hk
          simp only [pys, List.any_cons, ih hk.2, py_eqv y d hk.1 h1]
      rw [key ds h2]; exact h.self x (by simp [Rep])
  | min2 =>
    obtain ⟨i, j, rfl, rfl, h⟩ := wII_el h
    exact ⟨i, j, by rw [repO_int hd, repO_int he], h.self x rfl⟩
  | max2 =>
    obtain ⟨i, j, rfl, rfl, h⟩ := wII_el h
    exact ⟨i, j, by rw [repO_int hd, repO_int he], h.self x rfl⟩
  | gcd =>
    obtain ⟨i, j, rfl, rfl, h⟩ := wII_el h
    exact ⟨i, j, by rw [repO_int hd, repO_int he], h.self x rfl⟩

/-! ### one-place ones -/
/-- the readings of the built-in functions -/
def r1 (K : PySem.W.Frag) : P1 → List V → Hp → VK → Prop
  | .len => fun xs H Q => (∃ p ys, xs = [.ref p] ∧ (SqL K H p ys ∨ SqT K H p ys) ∧ Q (.int ys.length) H) ∨ ∃ z, xs = [.str z] ∧ z.length ≤ sizeLine ∧ Q (.int z.length) H
  | .abs => fun xs H Q => ∃ i, xs = [.int i] ∧ Q (.int (if i < 0 then -i else i)) H
  | .toInt => fun xs H Q => (∃ i, xs = [.int i] ∧ Q (.int i) H) ∨ ∃ k, xs = [.bl k] ∧ Q (.int (if k then 1 else 0)) H
  | .tuple => fun xs H Q => ∃ p ys, xs = [.ref p] ∧ ((SqL K H p ys ∧ ∀ l, H l = none → Q (.ref l) (upd H l (.tup ys))) ∨ (SqT K H p ys ∧ Q (.ref p) H))
  | .list => fun xs H Q => ∃ p ys, xs = [.ref p] ∧ (SqL K H p ys ∨ SqT K H p ys) ∧ ∀ l, H l = none → Q (.ref l) (upd H l (.lst ys))
  | .sum => rSum K
  | .all => rAll K
  | .any => rAny K
  | .neg => fun xs H Q => ∃ i, xs = [.int i] ∧ Q (.int (-i)) H
  | .rev => fun xs H Q => ∃ p ys, xs = [.ref p] ∧ SqL K H p ys ∧ ∀ l, H l = none → Q (.ref l) (upd H l (.lst ys.reverse))
theorem w1_ok {p : P1} (hp' : p ≠ .rev) (x : At g P al H M) (hd : RepO g P al H d v) (h : w1 M p d fun z => Post g P al H Q z M) : r1 g.K p [v] H Q := by
  cases p with
  | neg =>
    obtain ⟨i, rfl, h⟩ := wint_el h
    exact ⟨i, by rw [repO_int hd], h.self x rfl⟩
  | len =>
    by_cases hs : ∃ s, d = .str s
    · obtain ⟨s, rfl⟩ := hs
      exact .inr ⟨_, by rw [repO_str hd], Nat.le_trans h.1 line_le, h.2.self x rfl⟩
    · have h : opt (sq M d) fun ds => Post g P al H Q (.int ds.length) M := by
        cases d <;> first | exact h | exact absurd ⟨_, rfl⟩ hs
      obtain ⟨ds, hs, h⟩ := opt_iff.mp h
      obtain ⟨a, vs, rfl, h1, h2⟩ := seqA x hd hs
      refine .inl ⟨a, vs, rfl, h1, ?_⟩
      rw [h2.length]
      exact h.self x rfl
  | abs =>
    obtain ⟨i, rfl, h⟩ := wint_el h
    refine ⟨i, by rw [repO_int hd], h.self x ?_⟩
    show V.int _ = V.int _
    congr 1
    split <;> omega
  | toInt =>
    cases d <;> first | exact (show False from h).elim | skip
    · have h : Post g P al H Q (.int (b2n _)) M := h
      exact .inr ⟨_, by rw [repO_bl hd], h.self x rfl⟩
    · have h : Post g P al H Q (.int _) M := h
      exact .inl ⟨_, by rw [repO_int hd], h.self x rfl⟩
  | tuple =>
    obtain ⟨ds, hs, h⟩ := opt_iff.mp h
    by_cases ht : ∃ es, d = .tup es
    · obtain ⟨es, rfl⟩ := ht
      cases (show some es = some ds from hs)
      have hr := repO_tup hd
      obtain ⟨a, vs, rfl, h2, h3⟩ := id hr
      exact ⟨a, vs, rfl, .inr ⟨sqT_mono hp_same h2, h.self x hr⟩⟩
    · have e' : sqL M d = some ds := by
        cases d <;> first | exact hs | exact absurd ⟨_, rfl⟩ ht
      obtain ⟨a, vs, rfl, h1, h2⟩ := seqL x hd e'
      exact ⟨a, vs, rfl, .inl ⟨h1, h.tup x h2⟩⟩
  | list =>
    obtain ⟨ds, hs, h⟩ := opt_iff.mp h
    obtain ⟨a, vs, rfl, h1, h2⟩ := seqA x hd hs
    exact ⟨a, vs, rfl, h1, h.lst x h2⟩
  | sum =>
    obtain ⟨ds, hs, h⟩ := opt_iff.mp h
    obtain ⟨ns, hn, h⟩ := opt_iff.mp h
    obtain ⟨a, vs, rfl, h1, h2⟩ := seqL x hd hs
    exact ⟨a, ns, rfl, by rw [← h2.asInts hn]; exact h1, h.self x rfl⟩
  | all =>
    obtain ⟨ds, hs, h⟩ := opt_iff.mp h
    obtain ⟨ns, hn, h⟩ := opt_iff.mp h
    obtain ⟨a, vs, rfl, h1, h2⟩ := seqL x hd hs
    exact ⟨a, ns, rfl, by rw [← h2.asBls hn]; exact h1, h.self x rfl⟩
  | any =>
    obtain ⟨ds, hs, h⟩ := opt_iff.mp h
    obtain ⟨ns, hn, h⟩ := opt_iff.mp h
    obtain ⟨a, vs, rfl, h1, h2⟩ := seqL x hd hs
    exact ⟨a, ns, rfl, by rw [← h2.asBls hn]; exact h1, h.self x rfl⟩
  | rev => exact absurd rfl hp'
end
end PV

set_option Elab.async false
set_option linter.all false
set_option maxRecDepth 100000
set_option maxHeartbeats 2000000
/-! PV part 4: readings of the small language's expressions; one lemma a construct. -/
namespace PV
open PySem PySem.Spec PyProof.Rows L2

/-- a frame: what its callers hide, its entry -/
structure Fm where
  B0 : Addr → Prop
  al0 : List Addr
  H0 : Hp
structure Sta (g : GC) (fr : Fm) (B : Addr → Prop) (O : Ow) (al : List Addr) (σ : L2.St) (H : Hp) (r : Ro) (M : Ms) : Prop where
  env : EnvOk g B O fr.al0 fr.H0 al σ H r M
  sub : ∀ b, fr.B0 b → B b
section
variable {g : GC} {fr : Fm} {B : Addr → Prop} {O : Ow} {al al' : List Addr} {σ : L2.St} {H H' : Hp} {r : Ro} {M M' : Ms}
theorem Sta.hidT (s : Sta g fr B O al σ H r M) {b : Addr} (h : hid B O b) : (H b).isSome = true ∧ b ∉ al := by
  rcases h with h | ⟨i, h⟩
  · exact s.env.bt b h
  · have := s.env.fr i b h
    exact ⟨this.2.2.2, this.2.1⟩
theorem Sta.at (s : Sta g fr B O al σ H r M) : At g (hid B O) al H M := ⟨s.env.ms, fun b h => (s.hidT h).1⟩
theorem Sta.grow (s : Sta g fr B O al σ H r M) (gr : Grow al H al' H') (ms : MsOk g al' (hp (hid B O) al' H') H' M') : Sta g fr B O al' σ H' r M' := by
  have sm : Same (hp (hid B O) al H) (hp (hid B O) al' H') := gr.msk _
  have tr : ∀ b, hid B O b → (H' b).isSome = true ∧ b ∉ al' := fun b hb => by
    obtain ⟨h1, h2⟩ := s.hidT hb
    obtain ⟨o, ho⟩ := Option.isSome_iff_exists.mp h1
    refine ⟨by rw [gr.keep b o ho h2]; rfl, fun z => ?_⟩
    have := gr.new b z h2
    rw [this] at h1; cases h1
  refine ⟨⟨s.env.len, fun i t ht => ?_, s.env.inj, s.env.lt, fun i p hp => ?_, ms, fun b hb => tr b (.inl hb), s.env.gr.trans gr⟩, s.sub⟩
  · have q := s.env.sl i t ht
    cases t with
    | un => exact q
    | val d =>
      obtain ⟨q1, v, q2, q3⟩ := q
      exact ⟨q1, v, q2, q3.mono sm gr.pre⟩
    | own ds =>
      obtain ⟨p, vs, q1, q2, q3, q4⟩ := q
      exact ⟨p, vs, q1, q2, gr.keep _ _ q3 (s.env.fr i p q1).2.1, q4.mono sm gr.pre⟩
  · have := s.env.fr i p hp
    have t := tr p (.inr ⟨i, hp⟩)
    exact ⟨this.1, t.2, this.2.2.1, t.1⟩
theorem Sta.val (s : Sta g fr B O al σ H r M) {i : Nat} {d : D} (h : r[i]? = some (.val d)) : ∃ v, σ[i]? = some (some v) ∧ Rep g al (hp (hid B O) al H) d v := (s.env.sl i _ h).2
theorem Sta.own (s : Sta g fr B O al σ H r M) {i : Nat} {ds : List D} (h : r[i]? = some (.own ds)) : ∃ p vs, O i = some p ∧ σ[i]? = some (some (.ref p)) ∧ H p = some (.lst vs) ∧ p ∉ al ∧ Reps g al (hp (hid B O) al H) ds vs := by
  obtain ⟨p, vs, h1, h2, h3, h4⟩ := s.env.sl i _ h
  exact ⟨p, vs, h1, h2, h3, (s.env.fr i p h1).2.1, h4⟩
end
theorem val_el {r : Ro} {i : Nat} {Q : D → Prop} (h : val r i Q) : ∃ d, r[i]? = some (.val d) ∧ Q d := by
  unfold val at h
  split at h
  · exact ⟨_, by assumption, h⟩
  · exact h.elim
theorem ownv_el {r : Ro} {i : Nat} {Q : List D → Prop} (h : ownv r i Q) : ∃ d, r[i]? = some (.own d) ∧ Q d := by
  unfold ownv at h
  split at h
  · exact ⟨_, by assumption, h⟩
  · exact h.elim

def PostL (g : GC) (P : Addr → Prop) (al : List Addr) (H : Hp) (Q : List V → Hp → Prop) (ds : List D) (M' : Ms) : Prop :=
  ∀ vs H' al', Grow al H al' H' → MsOk g al' (hp P al' H') H' M' → Reps g al' (hp P al' H') ds vs → Q vs H'
def rd (g : GC) (m : Sm) (fr : Fm) (E : Ex) (x : X) : TE := fun σ H Q => ∃ B O al r M, Sta g fr B O al σ H r M ∧ wx m x E r M (Post g (hid B O) al H Q)
def rdo (g : GC) (m : Sm) (fr : Fm) (E : Ex) (x : X) : TE := fun σ H Q => ∃ B O al r M, Sta g fr B O al σ H r M ∧ opd x r M (wx m x E r M) (PostO g (hid B O) al H Q)
def rdl (g : GC) (m : Sm) (fr : Fm) (E : Ex) (x : X) : TA := fun σ H Q => ∃ B O al r M, Sta g fr B O al σ H r M ∧ wl m x E r M (PostL g (hid B O) al H Q)
def rdt (g : GC) (m : Sm) (fr : Fm) (E : Ex) (x : X) : TT := fun σ H Q => ∃ B O al r M, Sta g fr B O al σ H r M ∧ wx m x E r M fun d M' => wb d fun b => ∀ H' al', Grow al H al' H' → MsOk g al' (hp (hid B O) al' H') H' M' → Q b H'
theorem _root_.L2.PE.imp {X : Cx} {e : Expr} {t t' : TE} (h : PE X e t) (k : ∀ σ H Q, t' σ H Q → t σ H Q) : PE X e t' := ⟨fun pins s σ H Q I q => h.run pins s σ H Q I (k _ _ _ q)⟩
theorem _root_.L2.PT.imp {X : Cx} {e : Expr} {t t' : TT} (h : PT X e t) (k : ∀ σ H Q, t' σ H Q → t σ H Q) : PT X e t' := ⟨fun pins s σ H Q I q => h.run pins s σ H Q I (k _ _ _ q)⟩
theorem _root_.L2.PA.imp {X : Cx} {e : List Expr} {t t' : TA} (h : PA X e t) (k : ∀ σ H Q, t' σ H Q → t σ H Q) : PA X e t' := ⟨fun pos pins s σ H Q I q => h.run pos pins s σ H Q I (k _ _ _ q)⟩
theorem _root_.L2.PS.imp {X : Cx} {e : Stmt} {t t' : TS} (h : PS X e t) (k : ∀ D σ H, t' D σ H → t D σ H) : PS X e t' := ⟨fun pins s σ H D I q => h.run pins s σ H D I (k _ _ _ q)⟩
theorem _root_.L2.PSs.imp {X : Cx} {e : List Stmt} {t t' : TS} (h : PSs X e t) (k : ∀ D σ H, t' D σ H → t D σ H) : PSs X e t' := ⟨fun pins s σ H D I q => h.run pins s σ H D I (k _ _ _ q)⟩

section
variable {g : GC} {m : Sm} {fr : Fm} {E : Ex} {X : Cx} {a b e : Expr} {xa xb x : PV.X} {pos : Pos}
theorem opd_rd {x : PV.X} (h : PE X e (rd g m fr E x)) (hx : ∀ i, x ≠ .pk i) : PE X e (rdo g m fr E x) := h.imp fun σ H Q ⟨B, O, al, r, M, s, q⟩ => ⟨B, O, al, r, M, s, by
  have q' : wx m x E r M (PostO g (hid B O) al H Q) := by
    unfold opd at q
    split at q
    · exact absurd rfl (hx _)
    · exact q
  exact wx_mono x q' (Le.refl _) fun d M' k v H' al' gr ms rp => k v H' al' gr ms (.inl rp)⟩
/-- a name -/
theorem ok_v {i : Nat} (h : PE X e (tVar i)) : PE X e (rd g m fr E (.v i)) := h.imp fun σ H Q ⟨B, O, al, r, M, s, q⟩ => by
  obtain ⟨d, hd, q⟩ := val_el (show val r i fun d => Post g (hid B O) al H Q d M from q)
  obtain ⟨v, hv, rp⟩ := s.val hd
  exact ⟨v, hv, q.self s.at rp⟩
theorem ok_pk {i : Nat} (h : PE X e (tVar i)) : PE X e (rdo g m fr E (.pk i)) := h.imp fun σ H Q ⟨B, O, al, r, M, s, q⟩ => by
  obtain ⟨ds, hd, q⟩ := ownv_el (show ownv r i fun ds => PostO g (hid B O) al H Q (.lst ds) M from q)
  obtain ⟨p, vs, h1, h2, h3, h4, h5⟩ := s.own hd
  exact ⟨.ref p, h2, q _ H al (Grow.refl _ _) s.at.ms (.inr ⟨ds, p, vs, rfl, rfl, h3, h4, h5⟩)⟩
/-- what leans on nothing -/
theorem ok_c {x : PV.X} {d : D} {v : V} (h : PE X e (tC v)) (hx : ∀ E r M Q, wx m x E r M Q → Q d M) (hr : ∀ al H, Rep g al H d v) : PE X e (rd g m fr E x) := h.imp fun σ H Q ⟨B, O, al, r, M, s, q⟩ => (hx _ _ _ _ q).self s.at (hr _ _)
theorem ok_nil : PA X [] (rdl g m fr E .nil) := pa_nil.imp fun σ H Q ⟨B, O, al, r, M, s, q⟩ => (show PostL g (hid B O) al H Q [] M from q) [] H al (Grow.refl _ _) s.at.ms rfl
theorem ok_cons {es : List Expr} {xr : PV.X} (ha : PE X a (rd g m fr E xa)) (hr : PA X es (rdl g m fr E xr)) (hs : starEach (a :: es) X.env = (false, eval a X.env) :: starEach es X.env) : PA X (a :: es) (rdl g m fr E (.cons xa xr)) :=
  (pa_cons ha hr hs).imp fun σ H Q ⟨B, O, al, r, M, s, q⟩ => ⟨B, O, al, r, M, s, wx_mono xa q (Le.refl _) fun d M1 k v H1 al1 g1 m1 r1 =>
    ⟨B, O, al1, r, M1, s.grow g1 m1, wl_mono xr k (Le.refl _) fun ds M2 k2 vs H2 al2 g2 m2 r2 => k2 (v :: vs) H2 al2 (g1.trans g2) m2 ⟨v, vs, rfl, r1.mono (g2.msk _) g2.pre, r2⟩⟩⟩
theorem ok_tup {es : List Expr} {xr : PV.X} {k : Nat} (hr : PA X es (rdl g m fr E xr)) : PE X (.Tuple es k pos) (rd g m fr E (.tup xr)) :=
  (pe_tup hr).imp fun σ H Q ⟨B, O, al, r, M, s, q⟩ => ⟨B, O, al, r, M, s, wl_mono xr q (Le.refl _) fun ds M1 k vs H1 al1 g1 m1 r1 =>
    ⟨by rw [r1.length]; exact Nat.le_trans k.1 line_le, fun p hn => (show Post g (hid B O) al1 H1 Q (.tup ds) M1 from fun v H2 al2 g2 m2 r2 => k.2 v H2 al2 (g1.trans g2) m2 r2).tup (s.grow g1 m1).at r1 p hn⟩⟩
theorem ok_lst {es : List Expr} {xr : PV.X} (hr : PA X es (rdl g m fr E xr)) : PE X (.List es pos) (rd g m fr E (.lst xr)) :=
  (pe_lst hr).imp fun σ H Q ⟨B, O, al, r, M, s, q⟩ => ⟨B, O, al, r, M, s, wl_mono xr q (Le.refl _) fun ds M1 k vs H1 al1 g1 m1 r1 =>
    ⟨by rw [r1.length]; exact Nat.le_trans k.1 line_le, fun p hn => (show Post g (hid B O) al1 H1 Q (.lst ds) M1 from fun v H2 al2 g2 m2 r2 => k.2 v H2 al2 (g1.trans g2) m2 r2).lst (s.grow g1 m1).at r1 p hn⟩⟩
end
theorem Post.tail {g : GC} {P : Addr → Prop} {al al1 : List Addr} {H H1 : Hp} {Q : VK} {d : D} {M : Ms} (h : Post g P al H Q d M) (g1 : Grow al H al1 H1) : Post g P al1 H1 Q d M :=
  fun v H2 al2 g2 m2 r2 => h v H2 al2 (g1.trans g2) m2 r2
section
variable {g : GC} {m : Sm} {fr : Fm} {E : Ex} {X : Cx} {a b c e : Expr} {xa xb xc x : PV.X} {pos : Pos} {B : Addr → Prop} {O : Ow} {al : List Addr} {σ : L2.St} {H : Hp} {r : Ro} {M : Ms} {Q : VK}
/-- an operand is evaluated, then what follows -/
theorem rdo_of {K : D → Ms → Prop} {R : VK} (s : Sta g fr B O al σ H r M) (q : opd xa r M (wx m xa E r M) K)
    (k : ∀ d M1 v H1 al1, K d M1 → Grow al H al1 H1 → Sta g fr B O al1 σ H1 r M1 → RepO g (hid B O) al1 H1 d v → R v H1) : rdo g m fr E xa σ H R :=
  ⟨B, O, al, r, M, s, opd_mono q (fun q => wx_mono xa q (Le.refl _) fun d M1 h v H1 al1 g1 m1 r1 => k d M1 v H1 al1 h g1 (s.grow g1 m1) r1) fun d M1 h v H1 al1 g1 m1 r1 => k d M1 v H1 al1 h g1 (s.grow g1 m1) r1⟩
theorem rd_of {K : D → Ms → Prop} {R : VK} (s : Sta g fr B O al σ H r M) (q : wx m xa E r M K)
    (k : ∀ d M1 v H1 al1, K d M1 → Grow al H al1 H1 → Sta g fr B O al1 σ H1 r M1 → Rep g al1 (hp (hid B O) al1 H1) d v → R v H1) : rd g m fr E xa σ H R :=
  ⟨B, O, al, r, M, s, wx_mono xa q (Le.refl _) fun d M1 h v H1 al1 g1 m1 r1 => k d M1 v H1 al1 h g1 (s.grow g1 m1) r1⟩
theorem rdl_of {K : List D → Ms → Prop} {R : List V → Hp → Prop} (s : Sta g fr B O al σ H r M) (q : wl m xa E r M K)
    (k : ∀ d M1 v H1 al1, K d M1 → Grow al H al1 H1 → Sta g fr B O al1 σ H1 r M1 → Reps g al1 (hp (hid B O) al1 H1) d v → R v H1) : rdl g m fr E xa σ H R :=
  ⟨B, O, al, r, M, s, wl_mono xa q (Le.refl _) fun d M1 h v H1 al1 g1 m1 r1 => k d M1 v H1 al1 h g1 (s.grow g1 m1) r1⟩
theorem rdt_of {K : D → Ms → Prop} {R : Bool → Hp → Prop} (s : Sta g fr B O al σ H r M) (q : wx m xa E r M K)
    (k : ∀ d M1, K d M1 → wb d fun b => ∀ H1 al1, Grow al H al1 H1 → Sta g fr B O al1 σ H1 r M1 → R b H1) : rdt g m fr E xa σ H R :=
  ⟨B, O, al, r, M, s, wx_mono xa q (Le.refl _) fun d M1 h => wb_mono (k d M1 h) fun b h H1 al1 g1 m1 => h H1 al1 g1 (s.grow g1 m1)⟩
/-- a two-place operation -/
theorem ok_2 {p : P2} {f : Value → Value → Sem Value} (pe : ∀ {ta tb : TE}, PE X a ta → PE X b tb → PE X e (tOp (r2 X.K p) ta tb)) (hK : X.K = g.K) (ha : PE X a (rdo g m fr E xa)) (hb : PE X b (rdo g m fr E xb)) : PE X e (rd g m fr E (.p2 p xa xb)) :=
  (pe ha hb).imp fun σ H Q ⟨B, O, al, r, M, s, q⟩ => rdo_of s q fun d M1 v H1 al1 q1 g1 s1 r1 => rdo_of s1 q1 fun d2 M2 u H2 al2 q2 g2 s2 r2 => by
    rw [hK]
    exact w2_ok s2.at (r1.grow g2) r2 (w2_mono q2 fun z hz => hz.tail (g1.trans g2))
theorem ok_bin {p : P2} {o : Operator} (hK : X.K = g.K) (h : binop p = some o) (ha : PE X a (rdo g m fr E xa)) (hb : PE X b (rdo g m fr E xb)) : PE X (.BinOp a o b pos) (rd g m fr E (.p2 p xa xb)) :=
  ok_2 (f := binaryOp o) (fun ha hb => pe_op (r2_bin h) ha hb) hK ha hb
theorem ok_cmp {p : P2} {o : CmpOp} (hK : X.K = g.K) (hu : X.A.units + 64 < cLine) (h : cmpop p = some o) (hm : behindInMarks o b = false) (ha : PE X a (rdo g m fr E xa)) (hb : PE X b (rdo g m fr E xb)) : PE X (.Compare a [o] [b] pos) (rd g m fr E (.p2 p xa xb)) :=
  ok_2 (f := compareOp o) (fun ha hb => pe_cmpR (r2_cmp hu h) ha hb hm) hK ha hb
theorem ok_ix (hK : X.K = g.K) (hs : PlainIx b) (ha : PE X a (rdo g m fr E xa)) (hb : PE X b (rdo g m fr E xb)) : PE X (.Subscript a b pos) (rd g m fr E (.p2 .ix xa xb)) :=
  ok_2 (p := .ix) (f := getItem) (fun ha hb => pe_ix (ix_list.or ix_tup) ha hb hs) hK ha hb
/-- a chain of two comparisons -/
theorem ok_chn {p p' : P2} {o o' : CmpOp} (hK : X.K = g.K) (hu : X.A.units + 64 < cLine) (h : cmpop p = some o) (h' : cmpop p' = some o') (pe : ∀ {ta tb tc : TE}, PE X a ta → PE X b tb → PE X c tc → PE X e (tChain (r2 X.K p) (r2 X.K p') ta tb tc))
    (ha : PE X a (rdo g m fr E xa)) (hb : PE X b (rdo g m fr E xb)) (hc : PE X c (rdo g m fr E xc)) : PE X e (rd g m fr E (.chn p p' xa xb xc)) :=
  (pe ha hb hc).imp fun σ H Q ⟨B, O, al, r, M, s, q⟩ => rdo_of s q fun d M1 v H1 al1 q1 g1 s1 r1 => rdo_of s1 q1 fun d2 M2 u H2 al2 q2 g2 s2 r2 => by
    rw [hK]
    refine w2_ok s2.at (r1.grow g2) r2 (w2_mono q2 fun z hz => ?_)
    intro w H3 al3 g3 m3 r3
    obtain ⟨k, rfl, hz'⟩ := wb_el hz
    refine ⟨k, r3, ?_⟩
    have s3 := s2.grow g3 m3
    cases k with
    | false =>
      rw [if_neg Bool.false_ne_true] at hz'
      exact hz' _ H3 al3 ((g1.trans g2).trans g3) m3 rfl
    | true =>
      rw [if_pos rfl] at hz'
      exact rdo_of s3 hz' fun d4 M4 w4 H4 al4 q4 g4 s4 r4 => w2_ok s4.at ((r2.grow g3).grow g4) r4 (w2_mono q4 fun z hz => hz.tail (((g1.trans g2).trans g3).trans g4))
/-- a built-in function of one argument -/
theorem ok_1 {p : P1} (hp : p ≠ .rev) (pe : ∀ {ta : TE}, PE X a ta → PE X e fun σ H Q => ta σ H fun v H1 => r1 X.K p [v] H1 Q) (hK : X.K = g.K) (ha : PE X a (rdo g m fr E xa)) : PE X e (rd g m fr E (.p1 p xa)) :=
  (pe ha).imp fun σ H Q ⟨B, O, al, r, M, s, q⟩ => rdo_of s q fun d M1 v H1 al1 q1 g1 s1 r1 => by
    rw [hK]
    exact w1_ok hp s1.at r1 (w1_mono q1 fun z hz => hz.tail g1)
theorem ok_1B {p : P1} {f : Value} {nm : Str} {np : Pos} (hp : p ≠ .rev) (hc : CallR X f (r1 X.K p)) (pe : ∀ {ta : TA}, PA X [a] ta → PE X e (tCB (r1 X.K p) ta)) (hs : starEach [a] X.env = (false, eval a X.env) :: starEach [] X.env) (hK : X.K = g.K) (ha : PE X a (rdo g m fr E xa)) : PE X e (rd g m fr E (.p1 p xa)) :=
  ok_1 hp (fun ha => pe (pa_cons ha pa_nil hs)) hK ha
/-- tests as values -/
theorem ok_isN {n : Bool} {o : CmpOp} {j : Nat} {p1 : Pos} (ho : o = if n = true then .IsNot else .Is) (ha : PE X a (rd g m fr E xa)) : PE X (.Compare a [o] [.Constant .none j p1] pos) (rd g m fr E (.isN n xa)) := by
  have key : ∀ {d : D} {v : V} {al : List Addr} {Hm : Hp}, Rep g al Hm d v → decide (v = .non) = isNon d := fun {d v al Hm} h => by
    cases d with
    | non => cases (show v = _ from h); rfl
    | bl b => cases (show v = _ from h); rfl
    | int b => cases (show v = _ from h); rfl
    | str b => cases (show v = _ from h); rfl
    | tup b => obtain ⟨a, vs, rfl, _⟩ := h; rfl
    | lst b => obtain ⟨a, vs, rfl, _⟩ := h; rfl
    | scr b => obtain ⟨a, rfl, _⟩ := h; rfl
    | fn b => cases (show v = _ from h); rfl
    | exc b f => obtain ⟨a, d, vs, rfl, _⟩ := h; rfl
    | tok b => obtain ⟨a, _, rfl⟩ := h; rfl
  cases n with
  | false =>
    subst ho
    exact (pe_cmp (pc_isN ha) rfl).imp fun σ H Q ⟨B, O, al, r, M, s, q⟩ => rd_of s q fun d M1 v H1 al1 q1 g1 s1 r1 => by
      rw [key r1]
      exact q1 _ H1 al1 g1 s1.at.ms (by show V.bl _ = V.bl _; rw [Bool.false_xor])
  | true =>
    subst ho
    exact (pe_cmp (pc_notN ha) rfl).imp fun σ H Q ⟨B, O, al, r, M, s, q⟩ => rd_of s q fun d M1 v H1 al1 q1 g1 s1 r1 => by
      rw [key r1]
      exact q1 _ H1 al1 g1 s1.at.ms (by show V.bl _ = V.bl _; rw [Bool.true_xor])
theorem ok_isB {n k : Bool} {o : CmpOp} {j : Nat} {p1 : Pos} (ho : o = if n = true then .IsNot else .Is) (ha : PE X a (rd g m fr E xa)) : PE X (.Compare a [o] [.Constant (.bool k) j p1] pos) (rd g m fr E (.isB n k xa)) := by
  cases n with
  | false =>
    subst ho
    exact (pe_cmpR op_isBl ha pe_bl (nomark _)).imp fun σ H Q ⟨B, O, al, r, M, s, q⟩ => rd_of s q fun d M1 v H1 al1 q1 g1 s1 r1 => by
      obtain ⟨c, rfl, q1⟩ := wb_el q1
      exact ⟨c, k, r1, rfl, q1 _ H1 al1 g1 s1.at.ms (by show V.bl _ = V.bl _; rw [Bool.false_xor])⟩
  | true =>
    subst ho
    exact (pe_cmpR op_notBl ha pe_bl (nomark _)).imp fun σ H Q ⟨B, O, al, r, M, s, q⟩ => rd_of s q fun d M1 v H1 al1 q1 g1 s1 r1 => by
      obtain ⟨c, rfl, q1⟩ := wb_el q1
      exact ⟨c, k, r1, rfl, q1 _ H1 al1 g1 s1.at.ms (by show V.bl _ = V.bl _; rw [Bool.true_xor])⟩
theorem ok_nt (ha : PE X a (rd g m fr E xa)) : PE X (.UnaryOp .Not a pos) (rd g m fr E (.nt xa)) :=
  (pe_not ha).imp fun σ H Q ⟨B, O, al, r, M, s, q⟩ => rd_of s q fun d M1 v H1 al1 q1 g1 s1 r1 => by
    obtain ⟨c, rfl, q1⟩ := wb_el q1
    exact ⟨c, r1, q1 _ H1 al1 g1 s1.at.ms rfl⟩
theorem ok_an {rest : List Expr} (ha : PE X a (rd g m fr E xa)) (hb : PE X (.BoolOp .And (b :: rest) pos) (rd g m fr E xb)) : PE X (.BoolOp .And (a :: b :: rest) pos) (rd g m fr E (.an xa xb)) :=
  (pe_and ha hb).imp fun σ H Q ⟨B, O, al, r, M, s, q⟩ => rd_of s q fun d M1 v H1 al1 q1 g1 s1 r1 => by
    obtain ⟨c, rfl, q1⟩ := wb_el q1
    refine ⟨c, r1, ?_⟩
    cases c with
    | true => exact rd_of s1 q1 fun d2 M2 v2 H2 al2 q2 g2 s2 r2 => q2 _ H2 al2 (g1.trans g2) s2.at.ms r2
    | false => exact q1 _ H1 al1 g1 s1.at.ms rfl
theorem ok_or {rest : List Expr} (ha : PE X a (rd g m fr E xa)) (hb : PE X (.BoolOp .Or (b :: rest) pos) (rd g m fr E xb)) : PE X (.BoolOp .Or (a :: b :: rest) pos) (rd g m fr E (.or xa xb)) :=
  (pe_or ha hb).imp fun σ H Q ⟨B, O, al, r, M, s, q⟩ => rd_of s q fun d M1 v H1 al1 q1 g1 s1 r1 => by
    obtain ⟨c, rfl, q1⟩ := wb_el q1
    refine ⟨c, r1, ?_⟩
    cases c with
    | false => exact rd_of s1 q1 fun d2 M2 v2 H2 al2 q2 g2 s2 r2 => q2 _ H2 al2 (g1.trans g2) s2.at.ms r2
    | true => exact q1 _ H1 al1 g1 s1.at.ms rfl
theorem ok_ife (hc : PT X c (rdt g m fr E xc)) (ha : PE X a (rd g m fr E xa)) (hb : PE X b (rd g m fr E xb)) : PE X (.IfExp c a b pos) (rd g m fr E (.ife xc xa xb)) :=
  (pe_ifExp hc ha hb).imp fun σ H Q ⟨B, O, al, r, M, s, q⟩ => rdt_of s q fun d M1 q1 => wb_mono q1 fun k q1 H1 al1 g1 s1 => by
    cases k with
    | true => exact rd_of s1 q1 fun d2 M2 v2 H2 al2 q2 g2 s2 r2 => q2 _ H2 al2 (g1.trans g2) s2.at.ms r2
    | false => exact rd_of s1 q1 fun d2 M2 v2 H2 al2 q2 g2 s2 r2 => q2 _ H2 al2 (g1.trans g2) s2.at.ms r2
/-! ### tests -/
theorem ok_t (ha : PE X a (rd g m fr E xa)) (he : ∀ whole, isTrue a X.env whole = (do let v ← whole; standAt a.pos; holding [v] (truthy v))) : PT X a (rdt g m fr E xa) :=
  (pt_val ha he).imp fun σ H Q ⟨B, O, al, r, M, s, q⟩ => rd_of s q fun d M1 v H1 al1 q1 g1 s1 r1 => by
    obtain ⟨c, rfl, q1⟩ := wb_el q1
    exact ⟨c, r1, q1 H1 al1 g1 s1.at.ms⟩
theorem ok_tcmp {o : CmpOp} (h : PC X o a b (rd g m fr E x)) (h1 : behindInMarks o b = false) : PT X (.Compare a [o] [b] pos) (rdt g m fr E x) :=
  (pt_cmp h h1).imp fun σ H Q ⟨B, O, al, r, M, s, q⟩ => rd_of s q fun d M1 v H1 al1 q1 g1 s1 r1 => by
    obtain ⟨c, rfl, q1⟩ := wb_el q1
    exact ⟨c, r1, q1 H1 al1 g1 s1.at.ms⟩
theorem ok_tnt (ha : PT X a (rdt g m fr E xa)) : PT X (.UnaryOp .Not a pos) (rdt g m fr E (.nt xa)) :=
  (pt_not ha).imp fun σ H Q ⟨B, O, al, r, M, s, q⟩ => rdt_of s q fun d M1 q1 => wb_mono q1 fun k q1 H1 al1 g1 s1 => q1 H1 al1 g1 s1.at.ms
theorem ok_tan {rest : List Expr} (ha : PT X a (rdt g m fr E xa)) (hb : PW X (.BoolOp .And (b :: rest) pos) (rdt g m fr E xb)) : PW X (.BoolOp .And (a :: b :: rest) pos) (rdt g m fr E (.an xa xb)) := by
  refine ⟨fun wh pins s σ H Q I h => (pw_and ha hb).run wh pins s σ H Q I ?_⟩
  obtain ⟨B, O, al, r, M, s, q⟩ := h
  exact rdt_of s q fun d M1 q1 => wb_mono q1 fun k q1 H1 al1 g1 s1 => by
    cases k with
    | true => exact rdt_of s1 q1 fun d2 M2 q2 => wb_mono q2 fun k q2 H2 al2 g2 s2 => q2 H2 al2 (g1.trans g2) s2.at.ms
    | false => exact q1 H1 al1 g1 s1.at.ms
theorem ok_tor {rest : List Expr} (ha : PT X a (rdt g m fr E xa)) (hb : PW X (.BoolOp .Or (b :: rest) pos) (rdt g m fr E xb)) : PW X (.BoolOp .Or (a :: b :: rest) pos) (rdt g m fr E (.or xa xb)) := by
  refine ⟨fun wh pins s σ H Q I h => (pw_or ha hb).run wh pins s σ H Q I ?_⟩
  obtain ⟨B, O, al, r, M, s, q⟩ := h
  exact rdt_of s q fun d M1 q1 => wb_mono q1 fun k q1 H1 al1 g1 s1 => by
    cases k with
    | false => exact rdt_of s1 q1 fun d2 M2 q2 => wb_mono q2 fun k q2 H2 al2 g2 s2 => q2 H2 al2 (g1.trans g2) s2.at.ms
    | true => exact q1 H1 al1 g1 s1.at.ms
end
end PV

set_option Elab.async false
set_option linter.all false
set_option maxRecDepth 100000
set_option maxHeartbeats 2000000
/-! PV part 5: slices, isinstance, calls, what is walked, comprehensions. -/
namespace PV
open PySem PySem.Spec PyProof.Rows L2

section
variable {g : GC} {m : Sm} {fr : Fm} {E : Ex} {X : Cx} {a b c e : Expr} {xa xb xc x : PV.X} {pos : Pos} {B : Addr → Prop} {O : Ow} {al : List Addr} {σ : L2.St} {H : Hp} {r : Ro} {M : Ms} {Q : VK}
/-! ### slices -/
def rdp (g : GC) (m : Sm) (fr : Fm) (E : Ex) (x : PV.X) : TO := fun σ H Q => ∃ B O al r M, Sta g fr B O al σ H r M ∧ prt x M (wx m x E r M) fun o M' => ∀ H' al', Grow al H al' H' → MsOk g al' (hp (hid B O) al' H') H' M' → Q o H'
theorem _root_.L2.PO.imp {X : Cx} {e : Option Expr} {t t' : TO} (h : PO X e t) (k : ∀ σ H Q, t' σ H Q → t σ H Q) : PO X e t' := ⟨fun pins s σ H Q I q => h.run pins s σ H Q I (k _ _ _ q)⟩
theorem ok_pnone : PO X none (rdp g m fr E .nil) := po_none.imp fun σ H Q ⟨B, O, al, r, M, s, q⟩ => (show ∀ H' al', Grow al H al' H' → MsOk g al' (hp (hid B O) al' H') H' M → Q none H' from q) H al (Grow.refl _ _) s.at.ms
theorem ok_psome (ha : PE X a (rd g m fr E xa)) (hx : xa ≠ .nil) : PO X (some a) (rdp g m fr E xa) := (po_some ha).imp fun σ H Q ⟨B, O, al, r, M, s, q⟩ => by
  have q : wx m xa E r M fun d M' => wint d fun i => ∀ H' al', Grow al H al' H' → MsOk g al' (hp (hid B O) al' H') H' M' → Q (some i) H' := by
    unfold prt at q
    split at q
    · exact absurd rfl hx
    · exact q
  exact rd_of s q fun d M1 v H1 al1 q1 g1 s1 r1 => by
    obtain ⟨i, rfl, q1⟩ := wint_el q1
    exact ⟨i, r1, q1 H1 al1 g1 s1.at.ms⟩
theorem rdp_of {K : Option Int → Ms → Prop} {R : Option Int → Hp → Prop} (s : Sta g fr B O al σ H r M) (q : prt xa M (wx m xa E r M) K)
    (k : ∀ o M1 H1 al1, K o M1 → Grow al H al1 H1 → Sta g fr B O al1 σ H1 r M1 → R o H1) : rdp g m fr E xa σ H R :=
  ⟨B, O, al, r, M, s, prt_mono q (fun q h => wx_mono xa q (Le.refl _) h) fun d M1 h H1 al1 g1 m1 => k d M1 H1 al1 h g1 (s.grow g1 m1)⟩
theorem wsl_ok {d : D} {v : V} {lo hi : Option Int} (x : At g (hid B O) al H M) (hd : RepO g (hid B O) al H d v) (h : wsl M d lo hi fun z => Post g (hid B O) al H Q z M) : rSlA g.K v lo hi H Q ∨ rSlL g.K v lo hi H Q := by
  have cutR : ∀ {ds : List D} {vs : List V}, Reps g al (hp (hid B O) al H) ds vs → Reps g al (hp (hid B O) al H) (cut ds lo hi) (cutV vs lo hi) := fun {ds vs} h => by
    unfold cut cutV
    rw [h.length]
    exact (h.drop _).take _
  by_cases ht : ∃ es, d = .tup es
  · obtain ⟨es, rfl⟩ := ht
    have h : Post g (hid B O) al H Q (.tup (cut es lo hi)) M := h
    have hr := repO_tup hd
    obtain ⟨a, vs, rfl, h2, h3⟩ := id hr
    refine .inl ⟨a, vs, rfl, sqT_mono hp_same h2, fun hw => h.self x ?_, fun _ => h.tup x (cutR h3)⟩
    have e : cut es lo hi = es := by
      unfold cut
      rw [← h3.length, hw.1, hw.2]
      simp [h3.length]
    rw [e]; exact hr
  · have h : opt (sqL M d) fun ds => Post g (hid B O) al H Q (.lst (cut ds lo hi)) M := by
      cases d <;> first | exact h | exact absurd ⟨_, rfl⟩ ht
    obtain ⟨ds, hs, h⟩ := opt_iff.mp h
    obtain ⟨a, vs, rfl, h1, h2⟩ := seqL x hd hs
    exact .inr ⟨a, vs, rfl, h1, h.lst x (cutR h2)⟩
theorem ok_sl {lo hi : Option Expr} {xl xh : PV.X} {p2 : Pos} (hK : X.K = g.K) (ha : PE X a (rdo g m fr E xa)) (hl : PO X lo (rdp g m fr E xl)) (hh : PO X hi (rdp g m fr E xh)) : PE X (.Subscript a (.Slice lo hi none p2) pos) (rd g m fr E (.sl xa xl xh)) :=
  (pe_slice (sl_tupA.or sl_list) ha hl hh).imp fun σ H Q ⟨B, O, al, r, M, s, q⟩ => rdo_of s q fun d M1 v H1 al1 q1 g1 s1 r1 => rdp_of s1 q1 fun l M2 H2 al2 q2 g2 s2 => rdp_of s2 q2 fun u M3 H3 al3 q3 g3 s3 => by
    rw [hK]
    exact wsl_ok s3.at ((r1.grow g2).grow g3) (wsl_mono q3 fun z hz => hz.tail ((g1.trans g2).trans g3))
/-! ### calls of defs -/
/-- an exception as it flies -/
def XR (g : GC) (al : List Addr) (Hm H : Hp) (x : Xc) (cls : Value) (d : Option Addr) : Prop :=
  cls = .ref (g.ec x.k) ∧ ∃ vs, Reps g al Hm x.fs vs ∧ (d = none ∧ x.fs = [] ∨ x.fs ≠ [] ∧ ∃ p, d = some p ∧ Hm p = some (.xd ((g.en x.k).zip vs)))
theorem XR.mono {al al' : List Addr} {Hm Hm' H : Hp} {x : Xc} {cls : Value} {d : Option Addr} (h : XR g al Hm H x cls d) (s : Same Hm Hm') (p : al <+: al') : XR g al' Hm' H x cls d := by
  obtain ⟨h1, vs, h2, h3⟩ := h
  refine ⟨h1, vs, h2.mono s p, ?_⟩
  rcases h3 with h3 | ⟨h3, q, h4, h5⟩
  · exact .inl h3
  · exact .inr ⟨h3, q, h4, s _ _ h5⟩
def ends (g : GC) (P : Addr → Prop) (al : List Addr) (H : Hp) (E : XK) : Ex := fun x M' => ∀ cls d H' al', Grow al H al' H' → MsOk g al' (hp P al' H') H' M' → XR g al' (hp P al' H') H' x cls d → E cls d H'
/-- a def's promise by what it asks of values -/
def spOf (g : GC) (n : Nat) (f : Spec) : Sp := fun vs H Q E => vs.length = n ∧ ∃ (P : Addr → Prop) (al : List Addr) (M : Ms) (ds : List D), (∀ b, P b → (H b).isSome = true ∧ b ∉ al) ∧ MsOk g al (hp P al H) H M ∧ Reps g al (hp P al H) ds vs ∧
  f.run ds M (Post g P al H Q) (ends g P al H E)
/-- what this frame lets out -/
def XkOf (g : GC) (fr : Fm) (E : Ex) : XK := fun cls d H' => ∃ (x : Xc) (M' : Ms) (al' : List Addr), E x M' ∧ Grow fr.al0 fr.H0 al' H' ∧ MsOk g al' (hp fr.B0 al' H') H' M' ∧ XR g al' (hp fr.B0 al' H') H' x cls d
theorem MsOk.weak {P P' : Addr → Prop} (h : MsOk g al (hp P al H) H M) (hP : ∀ b, P' b → P b) : MsOk g al (hp P' al H) H M := by
  have s : Same (hp P al H) (hp P' al H) := msk_anti fun b hb => hb.imp (hP b) id
  refine ⟨h.len, h.nd, fun k a mo h1 h2 => ?_⟩
  have q := h.at_ k a mo h1 h2
  exact q.mono s (List.prefix_refl _) rfl
theorem ends_own (s : Sta g fr B O al σ H r M) : Le E (ends g (hid B O) al H (XkOf g fr E)) := fun x M' hx cls d H' al' gr ms xr => by
  have sub : ∀ b, fr.B0 b → hid B O b := fun b hb => .inl (s.sub b hb)
  exact ⟨x, M', al', hx, s.env.gr.trans gr, ms.weak sub, xr.mono (msk_anti fun b hb => hb.imp (sub b) id) (List.prefix_refl _)⟩
theorem call_ok {f : Spec} {ds : List D} {vs : List V} {n : Nat} (s : Sta g fr B O al σ H r M) (hn : vs.length = n) (hr : Reps g al (hp (hid B O) al H) ds vs) (h : f.run ds M (Post g (hid B O) al H Q) E) : spOf g n f vs H Q (XkOf g fr E) :=
  ⟨hn, hid B O, al, M, ds, fun b hb => s.hidT hb, s.at.ms, hr, f.mono h (fun _ _ h => h) (ends_own s)⟩
theorem ok_call {f : Spec} {k n : Nat} {es : List Expr} {ff : Addr} {fd : FuncData} {ps : List Str} {nm : Str} {np : Pos} {xr : PV.X} {j : Nat} (hf : m.fn j = f)
    (F : FnOk X.prog X.w X.K X.mg X.base (L2.CX X.prog X.w) k ff fd ps (spOf g n f)) (hr : Room k X.A) (hg : Gl X nm) (hm : X.mg nm = some (.ref ff)) (hk : PySem.W.keepIn X.K (.ref ff) = true) (hb : Binds X.K fd ps []) (hx : Passes (L2.CX X.prog X.w) X (XkOf g fr E)) (hn : ∀ ds : List D, ∀ M r E Q, wl m xr E r M Q → wl m xr E r M fun ds M' => ds.length = n ∧ Q ds M')
    (ha : PA X (a :: es) (rdl g m fr E xr)) (hdb : (nm == ("__debug__" : Str)) = false) (he : starEach (a :: es) X.env = (false, eval a X.env) :: starEach es X.env) (hpl : (backTo pos (starEach es X.env)).any (·.1) = false) :
    PE X (.Call (.Name nm np) (a :: es) [] pos) (rd g m fr E (.call j xr)) :=
  (pe_call F hr hg hm hk hb .nil hx ha hdb he hpl).imp fun σ H Q ⟨B, O, al, r, M, s, q⟩ => by
    have q := hn [] _ _ _ _ (show wl m xr E r M fun ds M' => (m.fn j).run ds M' (Post g (hid B O) al H Q) E from q)
    refine rdl_of s q fun ds M1 vs H1 al1 q1 g1 s1 r1 => ?_
    rw [List.append_nil]
    rw [hf] at q1
    exact call_ok s1 (by rw [r1.length]; exact q1.1) r1 (f.mono q1.2 (fun _ _ h => h.tail g1) (Le.refl _))
end
end PV

set_option Elab.async false
set_option linter.all false
set_option maxRecDepth 100000
set_option maxHeartbeats 2000000
/-! PV part 5z: what is walked: lists and tuples alike, zip of both kinds, of three, enumerate of both kinds. -/
namespace PV
open PySem PySem.Spec PyProof.Rows L2
/-- a list (true) or a tuple (false) that stands -/
def SqB (K : PySem.W.Frag) (b : Bool) (H : Hp) (a : Addr) (xs : List V) : Prop := match b with
  | true => SqL K H a xs
  | false => SqT K H a xs
def ItrB (b : Bool) (h : Heap) (it a : Addr) (i : Nat) : Prop := match b with
  | true => h.IsListIter it a i
  | false => h.IsTupleIter it a i
def SeqB (b : Bool) (h : Heap) (a : Addr) (its : Array Value) : Prop := match b with
  | true => h.IsList a its
  | false => h.IsTuple a its
def begB (b : Bool) (a : Addr) : Obj := match b with
  | true => { cls := .type "list_iterator", data := .fields #[.ref a, .int 0 0] }
  | false => { cls := .type "tuple_iterator", data := .fields #[.ref a, .int 0 0] }
theorem begins_B (b : Bool) (a : Addr) (its : Array Value) : Begins (.ref a) (begB b a) fun h => SeqB b h a its := by
  cases b with
  | true => exact begins_list a its
  | false => exact begins_tuple a its
theorem draws_B {prog : Program} {w : World} {A : Around} (hh : A.handled = none) (b : Bool) (it a : Addr) (hne : a ≠ it) (its : Array Value) :
    Draws prog w A it [it, a] its.size (fun i v => its[i]? = some v) (fun i h => ItrB b h it a i ∧ SeqB b h a its) := by
  cases b with
  | true => exact Draws.list hh it a hne its
  | false => exact Draws.tuple hh it a hne its
theorem itr_new {b : Bool} {a it : Addr} {h : Heap} (e : h.get? it = some (begB b a)) : ItrB b h it a 0 := by
  cases b with
  | true => exact ⟨_, e, rfl, rfl⟩
  | false => exact ⟨_, e, rfl, rfl⟩
theorem itr_obj {b : Bool} {a it : Addr} {h : Heap} {i : Nat} (x : ItrB b h it a i) : ∃ o, h.get? it = some o ∧ ∀ v, o.data ≠ .cell v := by
  cases b with
  | true => obtain ⟨o, e, _, d⟩ := x; exact ⟨o, e, fun v q => by rw [d] at q; cases q⟩
  | false => obtain ⟨o, e, _, d⟩ := x; exact ⟨o, e, fun v q => by rw [d] at q; cases q⟩
theorem itr_keep {b : Bool} {a it : Addr} {h h' : Heap} {i : Nat} (x : ItrB b h it a i) (k : ∀ o, h.get? it = some o → h'.get? it = some o) : ItrB b h' it a i := by
  cases b with
  | true => exact Heap.IsListIter.at x k
  | false => exact Heap.IsTupleIter.at x k
section
variable {X : Cx} {pins : List (Addr × Obj)} {σ : L2.St} {H : Hp} {s : Shared}
theorem _root_.L2.Inv.seqB (I : Inv X pins σ H s) {b : Bool} {a : Addr} {xs : List V} (h : SqB X.K b H a xs) : ∃ its : List Value, Vals xs its ∧ SeqB b s.heap a its.toArray ∧ a < s.heap.objs.size := by
  cases b with
  | true =>
    obtain ⟨its, r, p, _⟩ := I.list h
    exact ⟨its, r, p.isList, p.lt⟩
  | false =>
    obtain ⟨its, r, p, _⟩ := I.tuple h
    exact ⟨its, r, p, p.lt⟩
end
/-- a walk that hands out new tuples: n turns while G stands, at turn i the row i -/
def ItW (G : Hp → Prop) (n : Nat) (row : Nat → List V) : It :=
  ⟨fun i H => i < n ∧ G H, fun i H v H' => ∃ T, v = .ref T ∧ H T = none ∧ H' = upd H T (.tup (row i)), fun i H => i = n ∧ G H⟩
theorem turn_wt {P : Program} {w : World} {K : PySem.W.Frag} {elts : List Expr} {kk : Nat} {tpos : Pos} {G : Hp → Prop} {n : Nat} {row : Nat → List V} {fp wr : List Addr} {it : Addr} {tn : Nat → Heap → Prop}
    (hit : it ∈ fp) (hwr : ∀ b ∈ wr, b ∈ fp) (obj : ∀ i h, tn i h → ∀ b ∈ fp, ∃ o, h.get? b = some o ∧ ∀ v, o.data ≠ .cell v)
    (keep : ∀ i h h', tn i h → (∀ b ∈ fp, ∀ o, h.get? b = some o → h'.get? b = some o) → tn i h') (hl : ∀ i, (row i).length ≤ sizeLine)
    (W : ∀ (X : Cx), X.prog = P → X.w = w → X.K = K → X.calm = true → ∀ (pins : List (Addr × Obj)) (s : Shared) (σ : L2.St) (H : Hp), Inv X pins σ H s → G H →
      ∀ i, tn i s.heap → ∃ (fpW : List Addr) (Pt : Nat → Array Value → Prop) (St : Nat → Heap → Prop) (Mid : Nat → Addr → Heap → Prop), WalksT P w X.A it fpW wr n Pt St Mid ∧ St i s.heap ∧ (∀ j h, St j h → tn j h) ∧ ∀ j vals, j < n → Pt j vals → Vals (row j) vals.toList)
    (self : ∀ (A : Around) (i : Nat) (s : Shared) (Q : Value → Shared → Prop) (E : Value → Shared → Prop), tn i s.heap → Q (.ref it) s → wpAny (model P w) A (pyIter (.ref it)) Q E s) :
    Turn P w K (.Tuple elts kk tpos) (ItW G n row) fp it tn where
  mem := hit
  obj := obj
  keep := keep
  item := by
    intro X hP hw hK hc i pins s σ H E I hf st hg
    obtain ⟨hi, hG⟩ := hg
    obtain ⟨fpW, Pt, St, Mid, w1, h1, h2, h3⟩ := W X hP hw hK hc pins s σ H I hG i st
    refine w1.item i s _ _ hi h1 fun T vals h' tk hp hT ht hm hk => ⟨_, rfl, ?_⟩
    refine w1.go elts kk tpos i T { s with heap := h', toks := tk } _ _ hm fun h'' st2 hk2 => ?_
    have ht2 : h''.IsTuple T vals := by
      obtain ⟨o, e, c, d⟩ := ht
      exact ⟨o, hk2 T o (w1.apart i T h' hm) e, c, d⟩
    have hv := h3 i vals hi hp
    have new : ObjOk X.prog X.w (upd H T (.tup (row i))) h'' T (.tup (row i)) := ⟨hl i, vals.toList, hv, by have e : vals.toList.toArray = vals := (by simp); rw [e]; exact ht2⟩
    have I1 : Inv X pins σ (upd H T (.tup (row i))) { s with heap := h'', toks := tk } :=
      I.turnedNew (ch := wr) (fun b o hb q => hk2 b o hb (hk b o hb q)) (fun b hb => hf b (hwr b hb)) hT new
    refine ⟨.ref T, _, I1, rfl, ⟨T, rfl, I.hok.fresh hT, rfl⟩, h2 _ _ st2, fun b hb => ?_⟩
    obtain ⟨o, ho, _⟩ := obj i s.heap st b hb
    rw [upd_ne (Nat.ne_of_lt (Nat.lt_of_lt_of_le (Heap.lt_size ho) hT))]
    exact (hf b hb).1
  done := by
    intro X hP hw hK hc i pins s σ H E I hf st hg
    obtain ⟨rfl, hG⟩ := hg
    obtain ⟨fpW, Pt, St, Mid, w1, h1, h2, h3⟩ := W X hP hw hK hc pins s σ H I hG _ st
    exact w1.done s _ _ h1 fun h' tk hk => ⟨rfl, I.turnedL (ch := wr) hk fun b hb => hf b (hwr b hb)⟩
  self := self
theorem walk_wt {G : Hp → Prop} {n : Nat} {row : Nat → List V} : Walk (ItW G n row) n G (fun i H v H' => ∃ T, v = .ref T ∧ H T = none ∧ H' = upd H T (.tup (row i))) :=
  ⟨fun _ _ hi q => ⟨hi, q⟩, fun _ q => ⟨rfl, q⟩, fun _ _ _ _ _ _ y => y⟩
theorem row_get {xs : List V} {its : List Value} (r : Vals xs its) {i : Nat} {v : Value} (h : its.toArray[i]? = some v) (hi : i < xs.length) : RelV (xs.getD i .non) v := by
  obtain ⟨u, hu, ru⟩ := r.get (List.getElem?_eq_getElem hi)
  have h' : its[i]? = some v := by simpa using h
  rw [h'] at hu; cases hu
  rw [List.getD_eq_getElem?_getD, List.getElem?_eq_getElem hi]
  exact ru

/-! ### zip of two -/
def iZipM (K : PySem.W.Frag) (ta : TA) : TI := fun σ H R => ta σ H fun vs H1 => ∃ a b ba bb xs ys, vs = [.ref a, .ref b] ∧ SqB K ba H1 a xs ∧ SqB K bb H1 b ys ∧
  R (ItW (fun H => SqB K ba H a xs ∧ SqB K bb H b ys) (min xs.length ys.length) fun i => [xs.getD i .non, ys.getD i .non]) H1
theorem pi_zipM {X : Cx} {e e2 : Expr} {ta : TA} {p pos tpos : Pos} {elts : List Expr} {kk : Nat} (hg : Gl X "zip") (hm : X.mg "zip" = none) (ha : PA X [e, e2] ta)
    (hs : starEach [e, e2] X.env = (false, eval e X.env) :: starEach [e2] X.env) (hpl : (backTo pos (starEach [e2] X.env)).any (·.1) = false) :
    PI X (.Tuple elts kk tpos) (.Call (.Name "zip" p) [e, e2] [] pos) (iZipM X.K ta) := by
  refine ⟨fun pins s σ H R I h => ?_⟩
  refine Call_ (ld_blt I hg hm PyProof.Rows.boot_zip (PyProof.Rows.callWith_type1 (thn (ha.run pos pins s σ H _ I h) fun us s1 ⟨vs, H1, I1, r1, q1⟩ => ?_) hs hpl))
  obtain ⟨a, b, ba, bb, xs, ys, ex, hqx, hqy, q⟩ := q1
  subst ex
  cases r1 with
  | cons r rr =>
    cases rr with
    | cons r' rr =>
      cases rr
      cases r
      cases r'
      obtain ⟨its, rv, p1, la⟩ := I1.seqB hqx
      obtain ⟨its2, rv2, p2, lb⟩ := I1.seqB hqy
      refine zip_begins2 (begins_B ba a its.toArray) (begins_B bb b its2.toArray) p1 p2 fun h' hz hTI hTO h1 h2 hsz hk => wpAny_pyIter_zip hz ?_
      have I2 : Inv X pins σ H1 { s1 with heap := h' } := I1.kept (t' := s1.toks) hk
      have sep : ZipSep2 (s1.heap.objs.size + 4) (s1.heap.objs.size + 2) (s1.heap.objs.size + 3) s1.heap.objs.size (s1.heap.objs.size + 1) [s1.heap.objs.size, a] [s1.heap.objs.size + 1, b] :=
        zip_sep2 (fun c hc => by rw [List.mem_singleton.mp hc]; exact la) fun c hc => by rw [List.mem_singleton.mp hc]; exact lb
      generalize hN : s1.heap.objs.size = N at *
      refine ⟨N + 4, [N + 4, N + 2, N + 3, N, N + 1], fun i h => IsZip h (N + 4) (N + 2) (N + 3) .none ∧ IsTupOf2 h (N + 2) (.ref N) (.ref (N + 1)) ∧ (∃ x y, IsTupOf2 h (N + 3) x y) ∧ ItrB ba h N a i ∧ ItrB bb h (N + 1) b i, _, H1, rfl, I2,
        turn_wt (wr := [N + 4, N + 3, N, N + 1]) (by simp) (fun c hc => by simp only [List.mem_cons, List.not_mem_nil, or_false] at hc ⊢; rcases hc with z | z | z | z <;> simp [z]) (fun i h st c hc => ?_) (fun i h h' st k => ?_) (fun i => by show 2 ≤ sizeLine; decide)
          (fun Y hP hw hK hc pins' s' σ' H' J G i st => ?_) (fun A i s' Q E st h => wpAny_pyIter_zip st.1 h), ⟨hz, hTI, ⟨_, _, hTO⟩, itr_new h1, itr_new h2⟩, fun c hcm => ?_, q⟩
      · obtain ⟨hz, hTI, ⟨x, y, hTO⟩, h1, h2⟩ := st
        have e' : c = N + 4 ∨ c = N + 2 ∨ c = N + 3 ∨ c = N ∨ c = N + 1 := by simpa using hc
        rcases e' with q | q | q | q | q
        · rw [q]; exact ⟨_, hz, fun v q => nomatch q⟩
        · rw [q]; exact ⟨_, hTI, fun v q => nomatch q⟩
        · rw [q]; exact ⟨_, hTO, fun v q => nomatch q⟩
        · rw [q]; exact itr_obj h1
        · rw [q]; exact itr_obj h2
      · obtain ⟨hz, hTI, ⟨x, y, hTO⟩, h1, h2⟩ := st
        exact ⟨k _ (by simp) _ hz, k _ (by simp) _ hTI, ⟨x, y, k _ (by simp) _ hTO⟩, itr_keep h1 fun o q => k _ (by simp) o q, itr_keep h2 fun o q => k _ (by simp) o q⟩
      · obtain ⟨G1, G2⟩ := G
        rw [← hK] at G1 G2
        obtain ⟨jts, rj, pj, _⟩ := J.seqB G1
        obtain ⟨jts2, rj2, pj2, _⟩ := J.seqB G2
        have hd : Y.A.in1.handled = none := J.ok.hd hc
        have ne1 : a ≠ N := Nat.ne_of_lt la
        have ne2 : b ≠ N + 1 := Nat.ne_of_lt (Nat.lt_succ_of_lt lb)
        have W := WalksT.zipD2 (prog := X.prog) (w := X.w) (A := Y.A) sep (draws_B hd ba N a ne1 jts.toArray) (draws_B hd bb (N + 1) b ne2 jts2.toArray)
        have en : min jts.toArray.size jts2.toArray.size = min xs.length ys.length := by rw [List.size_toArray, List.size_toArray, rj.length, rj2.length]
        rw [en] at W
        refine ⟨_, _, _, _, W, ⟨st.1, st.2.1, st.2.2.1, ⟨st.2.2.2.1, pj⟩, ⟨st.2.2.2.2, pj2⟩⟩, fun j h z => ⟨z.1, z.2.1, z.2.2.1, z.2.2.2.1.1, z.2.2.2.2.1⟩, fun j vals hj ⟨x1, x2, e1, e2, ev⟩ => ?_⟩
        subst ev
        exact .cons (row_get rj e1 (by omega)) (.cons (row_get rj2 e2 (by omega)) .nil)
      · have e' : c = N + 4 ∨ c = N + 2 ∨ c = N + 3 ∨ c = N ∨ c = N + 1 := by simpa using hcm
        have hle : s1.heap.objs.size ≤ c := by
          rw [hN]
          rcases e' with z | z | z | z | z
          · rw [z]; exact Nat.le_add_right _ _
          · rw [z]; exact Nat.le_add_right _ _
          · rw [z]; exact Nat.le_add_right _ _
          · rw [z]; exact Nat.le_refl _
          · rw [z]; exact Nat.le_add_right _ _
        exact I1.fpOk hle (I1.hok.fresh hle)

/-! ### a list or a tuple -/
def ItS (K : PySem.W.Frag) (b : Bool) (a : Addr) : It := match b with
  | true => Itl K a
  | false => Itt K a
theorem walk_S {K : PySem.W.Frag} {b : Bool} {a : Addr} {xs : List V} : Walk (ItS K b a) xs.length (fun H => SqB K b H a xs) (YAt xs) := by
  cases b with
  | true => exact walk_list
  | false => exact walk_tup
def iSeqM (K : PySem.W.Frag) (tl : TE) : TI := fun σ H R => tl σ H fun x H1 => ∃ a b xs, x = .ref a ∧ SqB K b H1 a xs ∧ R (ItS K b a) H1
theorem pi_seqM {X : Cx} {tg l : Expr} {tl : TE} (hl : PE X l tl) : PI X tg l (iSeqM X.K tl) := by
  refine ⟨fun pins s σ H R I h => ?_⟩
  refine thn (hl.run pins s σ H _ I h) fun v s1 ⟨x, H1, I1, r1, q1⟩ => ?_
  obtain ⟨a, b, xs, e, hq, q⟩ := q1
  subst e
  cases r1
  cases b with
  | true =>
    obtain ⟨its, rv, p, hz⟩ := I1.list hq
    refine wpAny_pyIter_list p.isList ?_
    refine ⟨s1.heap.objs.size, [s1.heap.objs.size], _, _, H1, rfl, I1.kept (t' := s1.toks) fun b o e => Heap.get?_push_of_some _ e, turn_list a _, ⟨_, Heap.get?_push_size _ rfl, rfl, rfl⟩, fun b hb => ?_, q⟩
    have e : b = s1.heap.objs.size := by simpa using hb
    subst e
    exact I1.fpOk (Nat.le_refl _) (I1.hok.fresh (Nat.le_refl _))
  | false =>
    obtain ⟨its, rv, p, hz⟩ := I1.tuple hq
    refine wpAny_pyIter_tuple (show s1.heap.IsTuple a its.toArray from p) ?_
    refine ⟨s1.heap.objs.size, [s1.heap.objs.size], _, _, H1, rfl, I1.kept (t' := s1.toks) fun b o e => Heap.get?_push_of_some _ e, turn_tuple a _, ⟨_, Heap.get?_push_size _ rfl, rfl, rfl⟩, fun b hb => ?_, q⟩
    have e : b = s1.heap.objs.size := by simpa using hb
    subst e
    exact I1.fpOk (Nat.le_refl _) (I1.hok.fresh (Nat.le_refl _))

/-! ### enumerate -/
set_option maxHeartbeats 1000000 in
theorem meets_enum_new1 {v : Value} {o : Obj} {H : Heap → Prop} (B : Begins v o H) :
    Meets (Builtin.«enumerate.__new__» ⟨[.type "enumerate", v], []⟩) (fun _ R s => H s.heap ∧
      R (.ok (.ret (.ref (s.heap.push o).objs.size))) { s with heap := (s.heap.push o).push { cls := .type "enumerate", data := .fields #[.none, .bool false, .ref s.heap.objs.size, rawInt 0, .none, .none] } }) :=
  .of_wp fun prog w A R s h => by
    obtain ⟨hp, g, d, tk, os⟩ := s; obtain ⟨h1, h⟩ := h
    have hsub := sub_enumerate
    have q1 : ∀ {A' : Around} {E : Value → Shared → Prop} {Q : Value → Shared → Prop}, Q (.ref hp.objs.size) ⟨hp.push o, g, d, tk, os⟩ → wpAny (model prog w) A' (pyIter v) Q E ⟨hp, g, d, tk, os⟩ :=
      fun q => B.iter prog w _ _ ⟨hp, g, d, tk, os⟩ _ h1 q
    wp_walk using q1
    refine wpAny_stack_any fun st => wpAny_pure ?_
    split
    · rename_i c _ _ _ _ _
      cases (c == Value.type "enumerate")
      · wp_walk using q1
        exact ⟨_, rfl, h⟩
      · wp_walk using q1
        exact ⟨_, rfl, h⟩
    · wp_walk using q1
      exact ⟨_, rfl, h⟩
section
variable {prog : Program} {w : World} {A : Around} {E : Value → Shared → Prop} {s : Shared}
theorem enum_begins1 {v : Value} {o : Obj} {H : Heap → Prop} {Q : Value → Shared → Prop} (B : Begins v o H) (h1 : H s.heap)
    (h : ∀ h', IsEnum h' (s.heap.objs.size + 1) s.heap.objs.size 0 .none → h'.get? s.heap.objs.size = some o → h'.objs.size = s.heap.objs.size + 2 →
      (∀ b o, s.heap.get? b = some o → h'.get? b = some o) → Q (.ref (s.heap.objs.size + 1)) { s with heap := h' }) :
    wpAny (model prog w) A (call (.type "enumerate") [v]) Q E s := by
  refine callType_new F.called_enumerate (by decide) (F.typeCall_enumerate_1 _) (F.newCall_enumerate_1 _) (fun obj => F.args_object_init_2 obj _) F.entry_enumerate_new
    (meets_enum_new1 B) ⟨h1, ?_⟩
  have hz : (s.heap.push o).objs.size = s.heap.objs.size + 1 := Heap.size_push ..
  show _ ∧ _
  rw [hz]
  have he : IsEnum ((s.heap.push o).push { cls := .type "enumerate", data := .fields #[.none, .bool false, .ref s.heap.objs.size, rawInt 0, .none, .none] }) (s.heap.objs.size + 1) s.heap.objs.size 0 .none := by
    have := Heap.get?_push_size (s.heap.push o) (o := { cls := .type "enumerate", data := .fields #[.none, .bool false, .ref s.heap.objs.size, rawInt 0, .none, .none] }) rfl
    rw [hz] at this; exact this
  refine ⟨⟨_, he, rfl⟩, h _ he (Heap.get?_push_of_some _ (Heap.get?_push_size _ B.free)) (by rw [Heap.size_push, hz]) fun b o x => Heap.get?_push_of_some _ (Heap.get?_push_of_some _ x)⟩
end
def iEnumM (K : PySem.W.Frag) (ta : TA) : TI := fun σ H R => ta σ H fun vs H1 => ∃ a ba xs, vs = [.ref a] ∧ SqB K ba H1 a xs ∧
  R (ItW (fun H => SqB K ba H a xs) xs.length fun i => [.int i, xs.getD i .non]) H1
theorem pi_enumM {X : Cx} {e : Expr} {ta : TA} {p pos tpos : Pos} {elts : List Expr} {kk : Nat} (hg : Gl X "enumerate") (hm : X.mg "enumerate" = none) (ha : PA X [e] ta) (hs : starEach [e] X.env = [(false, eval e X.env)]) :
    PI X (.Tuple elts kk tpos) (.Call (.Name "enumerate" p) [e] [] pos) (iEnumM X.K ta) := by
  refine ⟨fun pins s σ H R I h => ?_⟩
  refine Call_ (ld_blt I hg hm boot_enumerate (PyProof.Rows.callWith_type1 (thn (ha.run pos pins s σ H _ I h) fun us s1 ⟨vs, H1, I1, r1, q1⟩ => ?_) hs rfl))
  obtain ⟨a, ba, xs, ex, hq, q⟩ := q1
  subst ex
  cases r1 with
  | cons r rr =>
    cases rr
    cases r
    obtain ⟨its, rv, p1, la⟩ := I1.seqB hq
    refine enum_begins1 (begins_B ba a its.toArray) p1 fun h' he h1 hsz hk => wpAny_pyIter_enum he ?_
    have I2 : Inv X pins σ H1 { s1 with heap := h' } := I1.kept (t' := s1.toks) hk
    generalize hN : s1.heap.objs.size = N at *
    have neN : N + 1 ≠ N := Nat.succ_ne_self N
    have neA : a ≠ N := Nat.ne_of_lt la
    refine ⟨N + 1, [N + 1, N], fun i h => (∃ old, IsEnum h (N + 1) N (0 + (i : Int)) old) ∧ ItrB ba h N a i, _, H1, rfl, I2,
      turn_wt (wr := [N + 1, N]) (by simp) (fun c hc => hc) (fun i h st c hc => ?_) (fun i h h' st k => ?_) (fun i => by show 2 ≤ sizeLine; decide)
        (fun Y hP hw hK hc pins' s' σ' H' J G i st => ?_) (fun A i s' Q E st h => let ⟨⟨_, he⟩, _⟩ := st; wpAny_pyIter_enum he h), ⟨⟨.none, he⟩, itr_new h1⟩, fun c hcm => ?_, q⟩
    · obtain ⟨⟨old, he⟩, h1⟩ := st
      have e' : c = N + 1 ∨ c = N := by simpa using hc
      rcases e' with q | q
      · rw [q]; exact ⟨_, he, fun v q => nomatch q⟩
      · rw [q]; exact itr_obj h1
    · obtain ⟨⟨old, he⟩, h1⟩ := st
      exact ⟨⟨old, k _ (by simp) _ he⟩, itr_keep h1 fun o q => k _ (by simp) o q⟩
    · rw [← hK] at G
      obtain ⟨jts, rj, pj, _⟩ := J.seqB G
      have hd : Y.A.in1.handled = none := J.ok.hd hc
      have W := WalksT.enumFrom (prog := X.prog) (w := X.w) (A := Y.A) 0 (draws_B hd ba N a neA jts.toArray) (N + 1) neN
        (fun z => by
          rcases List.mem_cons.mp z with z | z
          · exact neN z
          · exact absurd (List.mem_singleton.mp z) (Nat.ne_of_gt (Nat.lt_succ_of_lt la))) (List.mem_cons_self ..)
      have en : jts.toArray.size = xs.length := by rw [List.size_toArray, rj.length]
      rw [en] at W
      refine ⟨_, _, _, _, W, ⟨st.1, ⟨st.2, pj⟩⟩, fun j h z => ⟨z.1, z.2.1⟩, fun j vals hj ⟨t, x, e1, ev⟩ => ?_⟩
      subst ev
      exact .cons ⟨t, by rw [Int.zero_add]⟩ (.cons (row_get rj e1 hj) .nil)
    · have e' : c = N + 1 ∨ c = N := by simpa using hcm
      have hle : s1.heap.objs.size ≤ c := by
        rw [hN]
        rcases e' with z | z
        · rw [z]; exact Nat.le_add_right _ _
        · rw [z]; exact Nat.le_refl _
      exact I1.fpOk hle (I1.hok.fresh hle)
end PV

set_option Elab.async false
set_option linter.all false
set_option maxRecDepth 100000
set_option maxHeartbeats 2000000
/-! PV part 6: slots stored, targets, what is walked, comprehensions. -/
namespace PV
open PySem PySem.Spec PyProof.Rows L2

section
variable {g : GC} {fr : Fm} {B B' : Addr → Prop} {O O' : Ow} {al al' : List Addr} {σ : L2.St} {H H' : Hp} {r : Ro} {M M' : Ms}
theorem hp_anti {P P' : Addr → Prop} (h : ∀ b, P' b → P b) : Same (hp P al H) (hp P' al H) := msk_anti fun b hb => hb.imp (h b) id
/-- a slot is stored -/
def dropO (O : Ow) (i : Nat) : Ow := fun j => if j = i then none else O j
theorem dropO_some {O : Ow} {i j : Nat} {p : Addr} (h : dropO O i j = some p) : j ≠ i ∧ O j = some p := by
  unfold dropO at h
  split at h
  · cases h
  · exact ⟨by assumption, h⟩
theorem hid_drop {i : Nat} {b : Addr} (h : hid B (dropO O i) b) : hid B O b := h.imp id fun ⟨j, hj⟩ => ⟨j, (dropO_some hj).2⟩
theorem Sta.set (s : Sta g fr B O al σ H r M) {i : Nat} {d : D} {v : V} (hi : i < r.length) (hr : Rep g al (hp (hid B O) al H) d v) : Sta g fr B (dropO O i) al (σ.set i (some v)) H (r.set i (.val d)) M := by
  have sm : Same (hp (hid B O) al H) (hp (hid B (dropO O i)) al H) := hp_anti fun b hb => hid_drop hb
  refine ⟨⟨by simp [s.env.len], fun j t ht => ?_, fun a b p h1 h2 => s.env.inj a b p (dropO_some h1).2 (dropO_some h2).2, fun j p h => by rw [List.length_set]; exact s.env.lt j p (dropO_some h).2, fun j p h => s.env.fr j p (dropO_some h).2, s.env.ms.weak fun b hb => hid_drop hb, s.env.bt, s.env.gr⟩, s.sub⟩
  by_cases hj : j = i
  · subst hj
    rw [List.getElem?_set_self hi] at ht
    cases ht
    refine ⟨by unfold dropO; rw [if_pos rfl], v, ?_, hr.mono sm (List.prefix_refl _)⟩
    rw [List.getElem?_set_self (by rw [s.env.len]; exact hi)]
  · rw [List.getElem?_set_ne (Ne.symm hj)] at ht
    have q := s.env.sl j t ht
    have e : dropO O i j = O j := by unfold dropO; rw [if_neg hj]
    rw [List.getElem?_set_ne (Ne.symm hj), e]
    cases t with
    | un => exact q
    | val d =>
      obtain ⟨q1, v, q2, q3⟩ := q
      exact ⟨q1, v, q2, q3.mono sm (List.prefix_refl _)⟩
    | own ds =>
      obtain ⟨p, vs, q1, q2, q3, q4⟩ := q
      exact ⟨p, vs, q1, q2, q3, q4.mono sm (List.prefix_refl _)⟩
/-- a new object -/
theorem Sta.new (s : Sta g fr B O al σ H r M) {p : Addr} {o : HO} (h : H p = none) : Sta g fr B O al σ (upd H p o) r M := s.grow (Grow.upd h) (s.at.ms.upd h)
theorem Sta.fresh (s : Sta g fr B O al σ H r M) {p : Addr} (h : H p = none) : fr.H0 p = none ∧ p ∉ al ∧ ¬ hid B O p := by
  have na : p ∉ al := fun z => by
    have := s.at.ms.tracked z
    rw [h] at this; cases this
  refine ⟨?_, na, fun z => ?_⟩
  · cases e : fr.H0 p with
    | none => rfl
    | some o =>
      have := s.env.gr.keep p o e fun z => na (by
        obtain ⟨t, ht⟩ := s.env.gr.pre
        rw [← ht]; exact List.mem_append_left _ z)
      rw [h] at this; cases this
  · have := (s.hidT z).1
    rw [h] at this; cases this
/-- an object of ours is hidden -/
theorem Sta.hide (s : Sta g fr B O al σ H r M) {p : Addr} {o : HO} (h : H p = none) : Sta g fr (fun b => B b ∨ b = p) O al σ (upd H p o) r M := by
  obtain ⟨f1, f2, f3⟩ := s.fresh h
  have s1 := s.new (o := o) h
  have sm : Same (hp (hid B O) al H) (hp (hid (fun b => B b ∨ b = p) O) al (upd H p o)) := fun b u e => by
    obtain ⟨n, q⟩ := of_msk e
    have nb : b ≠ p := ne_of_none q h
    unfold hp
    rw [msk_of, upd_ne nb]
    · exact q
    · rintro ((z | z) | z)
      · rcases z with z | z
        · exact n (.inl (.inl z))
        · exact nb z
      · exact n (.inl (.inr z))
      · exact n (.inr z)
  refine ⟨⟨s1.env.len, fun i t ht => ?_, s1.env.inj, s1.env.lt, fun i q hq => ?_, ⟨s1.env.ms.len, s1.env.ms.nd, fun k a mo h1 h2 => ?_⟩, fun b hb => ?_, s1.env.gr⟩, fun b hb => .inl (s.sub b hb)⟩
  · have q := s.env.sl i t ht
    cases t with
    | un => exact q
    | val d =>
      obtain ⟨q1, v, q2, q3⟩ := q
      exact ⟨q1, v, q2, q3.mono sm (List.prefix_refl _)⟩
    | own ds =>
      obtain ⟨p', vs, q1, q2, q3, q4⟩ := q
      exact ⟨p', vs, q1, q2, by rw [upd_ne (ne_of_none q3 h)]; exact q3, q4.mono sm (List.prefix_refl _)⟩
  · have := s1.env.fr i q hq
    refine ⟨this.1, this.2.1, ?_, this.2.2.2⟩
    rintro (z | z)
    · exact this.2.2.1 z
    · subst z
      exact f3 (.inr ⟨i, hq⟩)
  · have q := s.env.ms.at_ k a mo h1 h2
    have ha : a ≠ p := fun z => f2 (by rw [← z]; exact List.mem_of_getElem? h1)
    exact q.mono sm (List.prefix_refl _) (upd_ne ha)
  · rcases hb with hb | hb
    · exact s1.env.bt b hb
    · subst hb
      rw [upd_same]; exact ⟨rfl, f2⟩
theorem hp_upd {P : Addr → Prop} {p : Addr} {o : HO} (h : P p) : hp P al (upd H p o) = hp P al H := by
  funext b
  unfold hp
  by_cases hb : P b ∨ b ∈ al
  · unfold msk; rw [if_pos hb, if_pos hb]
  · rw [msk_of hb, msk_of hb, upd_ne (fun z => hb (.inl (by rw [z]; exact h)))]
/-- a hidden object of ours changes -/
theorem Sta.mut (s : Sta g fr B O al σ H r M) {p : Addr} {o : HO} (h : B p) (h0 : fr.H0 p = none) : Sta g fr B O al σ (upd H p o) r M := by
  have e : hp (hid B O) al (upd H p o) = hp (hid B O) al H := hp_upd (.inl h)
  refine ⟨⟨s.env.len, fun i t ht => ?_, s.env.inj, s.env.lt, fun i q hq => ?_, ⟨s.env.ms.len, s.env.ms.nd, fun k a mo h1 h2 => ?_⟩, fun b hb => ?_, ⟨s.env.gr.pre, fun b u hu hn => ?_, s.env.gr.new⟩⟩, s.sub⟩
  · have q := s.env.sl i t ht
    show SlOk g al (hp (hid B O) al (upd H p o)) _ _ _ _
    rw [e]
    cases t with
    | un => exact q
    | val d => exact q
    | own ds =>
      obtain ⟨p', vs, q1, q2, q3, q4⟩ := q
      have np : p' ≠ p := fun z => (s.env.fr i p' q1).2.2.1 (by rw [z]; exact h)
      exact ⟨p', vs, q1, q2, by rw [upd_ne np]; exact q3, q4⟩
  · have := s.env.fr i q hq
    have np : q ≠ p := fun z => this.2.2.1 (by rw [z]; exact h)
    exact ⟨this.1, this.2.1, this.2.2.1, by rw [upd_ne np]; exact this.2.2.2⟩
  · have q := s.env.ms.at_ k a mo h1 h2
    have ha : a ≠ p := fun z => (s.env.bt p h).2 (by rw [← z]; exact List.mem_of_getElem? h1)
    show MoOk g al (hp (hid B O) al (upd H p o)) _ _ _
    rw [e]
    exact q.mono (Same.refl _) (List.prefix_refl _) (upd_ne ha)
  · have := s.env.bt b hb
    by_cases hbp : b = p
    · subst hbp; rw [upd_same]; exact ⟨rfl, this.2⟩
    · rw [upd_ne hbp]; exact this
  · have nb : b ≠ p := ne_of_none hu h0
    rw [upd_ne nb]; exact s.env.gr.keep b u hu hn
/-- slots forgotten; what they own is hidden -/
def dropOs (O : Ow) (own : List Nat) : Ow := fun j => if j ∈ own then none else O j
theorem dropOs_some {own : List Nat} {j : Nat} {p : Addr} (h : dropOs O own j = some p) : j ∉ own ∧ O j = some p := by
  unfold dropOs at h
  split at h
  · cases h
  · exact ⟨by assumption, h⟩
def hidOs (B : Addr → Prop) (O : Ow) (own : List Nat) : Addr → Prop := fun b => B b ∨ ∃ i, i ∈ own ∧ O i = some b
theorem hid_Os {own : List Nat} {b : Addr} : hid (hidOs B O own) (dropOs O own) b ↔ hid B O b := by
  constructor
  · rintro ((h | ⟨i, _, h⟩) | ⟨i, h⟩)
    · exact .inl h
    · exact .inr ⟨i, h⟩
    · exact .inr ⟨i, (dropOs_some h).2⟩
  · rintro (h | ⟨i, h⟩)
    · exact .inl (.inl h)
    · by_cases hi : i ∈ own
      · exact .inl (.inr ⟨i, hi, h⟩)
      · exact .inr ⟨i, by unfold dropOs; rw [if_neg hi]; exact h⟩
theorem hp_Os {own : List Nat} : hp (hid (hidOs B O own) (dropOs O own)) al H = hp (hid B O) al H := by
  unfold hp
  congr 1
  funext b
  exact propext (or_congr hid_Os Iff.rfl)
theorem clr_len : ∀ (own : List Nat) (r : Ro), (clr own r).length = r.length
  | [], _ => rfl
  | i :: is, r => by unfold clr; rw [List.length_set, clr_len is r]
theorem clr_get : ∀ (own : List Nat) (r : Ro) (j : Nat) (t : Sl), (clr own r)[j]? = some t → (t = .un ∧ j ∈ own) ∨ (j ∉ own ∧ r[j]? = some t)
  | [], _, _, _, h => .inr ⟨by simp, h⟩
  | i :: is, r, j, t, h => by
    unfold clr at h
    by_cases hj : i = j
    · subst hj
      by_cases hl : i < (clr is r).length
      · rw [List.getElem?_set_self hl] at h; cases h; exact .inl ⟨rfl, by simp⟩
      · rw [List.getElem?_eq_none (by simpa using hl)] at h; cases h
    · rw [List.getElem?_set_ne hj] at h
      rcases clr_get is r j t h with ⟨h1, h2⟩ | ⟨h1, h2⟩
      · exact .inl ⟨h1, by simp [h2]⟩
      · exact .inr ⟨by simp only [List.mem_cons, not_or]; exact ⟨fun e => hj e.symm, h1⟩, h2⟩
theorem wipe_get : ∀ (own : List Nat) (σ : L2.St) (j : Nat), j ∉ own → (wipe σ own)[j]? = σ[j]?
  | [], _, _, _ => rfl
  | i :: is, σ, j, h => by
    simp only [List.mem_cons, not_or] at h
    unfold wipe
    rw [List.getElem?_set_ne (fun e => h.1 e.symm)]
    exact wipe_get is σ j h.2
theorem Sta.wipe (s : Sta g fr B O al σ H r M) (own : List Nat) : Sta g fr (hidOs B O own) (dropOs O own) al (wipe σ own) H (clr own r) M := by
  refine ⟨⟨by rw [wipe_length, clr_len]; exact s.env.len, fun j t ht => ?_, fun a b p h1 h2 => s.env.inj a b p (dropOs_some h1).2 (dropOs_some h2).2, fun j p h => by rw [clr_len]; exact s.env.lt j p (dropOs_some h).2, fun j p h => ?_, ?_, fun b hb => ?_, s.env.gr⟩, fun b hb => .inl (s.sub b hb)⟩
  · show SlOk g al (hp (hid (hidOs B O own) (dropOs O own)) al H) _ _ _ _
    rw [hp_Os]
    rcases clr_get own r j t ht with ⟨rfl, hj⟩ | ⟨hj, ht⟩
    · show dropOs O own j = none
      unfold dropOs; rw [if_pos hj]
    · have q := s.env.sl j t ht
      have e : dropOs O own j = O j := by unfold dropOs; rw [if_neg hj]
      rw [e, wipe_get own σ j hj]
      exact q
  · obtain ⟨h1, h2⟩ := dropOs_some h
    have q := s.env.fr j p h2
    refine ⟨q.1, q.2.1, ?_, q.2.2.2⟩
    rintro (z | ⟨i, hi, z⟩)
    · exact q.2.2.1 z
    · have := s.env.inj i j p z h2
      subst this
      exact h1 hi
  · show MsOk g al (hp (hid (hidOs B O own) (dropOs O own)) al H) H M
    rw [hp_Os]; exact s.env.ms
  · have : hid B O b := by
      rcases hb with hb | ⟨i, _, hb⟩
      · exact .inl hb
      · exact .inr ⟨i, hb⟩
    exact s.hidT this
end

/-! ### targets -/
def tgs : List Nat → TGs
  | [] => gNil
  | i :: is => gCons (gName i) (tgs is)
def tg (K : PySem.W.Frag) : Tg → TG
  | .nm i => gName i
  | .tp is => gTup K is.length (tgs is)
section
variable {g : GC} {fr : Fm} {B : Addr → Prop} {O : Ow} {al : List Addr} {σ : L2.St} {H : Hp} {r : Ro} {M : Ms}
theorem tgs_ok : ∀ (is : List Nat) {ds : List D} {vs : List V} {O : Ow} {σ : L2.St} {r : Ro} {Q : L2.St → Hp → Prop}, Sta g fr B O al σ H r M → Reps g al (hp (hid B O) al H) ds vs → is.length = ds.length → (∀ i ∈ is, i < r.length) →
    (∀ σ' O', Sta g fr B O' al σ' H (sets is ds r) M → (∀ j, O' j = if j ∈ is then none else O j) → (∀ j, j ∉ is → σ'[j]? = σ[j]?) → σ'.length = σ.length → Q σ' H) → tgs is vs σ H Q
  | [], ds, vs, O, σ, r, Q, s, hr, hl, _, q => by
    cases ds with
    | nil =>
      cases (show vs = [] from hr)
      exact ⟨rfl, q σ O s (fun _ => by simp) (fun _ _ => rfl) rfl⟩
    | cons _ _ => simp at hl
  | i :: is, ds, vs, O, σ, r, Q, s, hr, hl, hi, q => by
    cases ds with
    | nil => simp at hl
    | cons d ds =>
      obtain ⟨v, rest, rfl, h2, h3⟩ := hr
      refine ⟨v, rest, rfl, ?_⟩
      show tgs is rest (σ.set i (some v)) H Q
      have s1 := s.set (hi i (by simp)) h2
      refine tgs_ok is s1 (h3.mono (hp_anti fun b hb => hid_drop hb) (List.prefix_refl _)) (by simpa using hl) (fun j hj => by rw [List.length_set]; exact hi j (by simp [hj])) fun σ' O' s' hh hs hlen => ?_
      refine q σ' O' s' (fun j => ?_) (fun j hj => ?_) (by rw [hlen, List.length_set])
      · rw [hh j]
        unfold dropO
        by_cases h1 : j ∈ is
        · simp [h1]
        · by_cases h2 : j = i <;> simp [h1, h2]
      · simp only [List.mem_cons, not_or] at hj
        rw [hs j hj.2, List.getElem?_set_ne (fun e => hj.1 e.symm)]
def tgIs : Tg → List Nat
  | .nm i => [i]
  | .tp is => is
theorem tg_ok {t : Tg} {d : D} {v : V} {Qr : Ro → Prop} {Q : L2.St → Hp → Prop} (s : Sta g fr B O al σ H r M) (hr : Rep g al (hp (hid B O) al H) d v) (h : bt M t d r Qr)
    (q : ∀ σ' O' r', Sta g fr B O' al σ' H r' M → Qr r' → (∀ j, O' j = if j ∈ tgIs t then none else O j) → (∀ j, j ∉ tgIs t → σ'[j]? = σ[j]?) → σ'.length = σ.length → Q σ' H) : tg g.K t v σ H Q := by
  cases t with
  | nm i =>
    obtain ⟨hi, h⟩ := h
    exact q _ _ _ (s.set hi hr) h (fun j => by unfold dropO; simp [tgIs]) (fun j hj => by
      simp only [tgIs, List.mem_singleton] at hj
      rw [List.getElem?_set_ne (fun e => hj e.symm)]) (by rw [List.length_set])
  | tp is =>
    cases d <;> first | exact (show False from h).elim | skip
    rename_i ds
    obtain ⟨h1, h2, h3⟩ := h
    obtain ⟨a, vs, rfl, hs, hr⟩ := hr
    exact ⟨a, vs, rfl, sqT_mono hp_same hs, by rw [hr.length]; exact h1.symm, tgs_ok is s hr h1 h2 fun σ' O' s' k1 k2 k3 => q σ' O' _ s' h3 k1 k2 k3⟩
end
end PV

set_option Elab.async false
set_option linter.all false
set_option maxRecDepth 100000
set_option maxHeartbeats 2000000
/-! PV part 7: what is walked, comprehensions. -/
namespace PV
open PySem PySem.Spec PyProof.Rows L2

/-- a walk over data: it goes on while Hg is kept; its items stand in He -/
structure Wkd (g : GC) (J : It) (ds : List D) (Hg He : Hp) (als : List Addr) : Prop where
  ex : ∃ (G : Hp → Prop) (Y : Nat → Hp → V → Hp → Prop), Walk J ds.length G Y ∧ (∀ H, Same Hg H → G H) ∧
    ∀ i H x H', i < ds.length → Y i H x H' → (H' = H ∧ ∃ d, ds[i]? = some d ∧ Rep g als He d x) ∨
      (∃ T row es, x = .ref T ∧ H T = none ∧ H' = upd H T (.tup row) ∧ ds[i]? = some (.tup es) ∧ Reps g als He es row)
section
variable {g : GC} {J : It} {ds : List D} {Hg Hg' He He' : Hp} {als als' : List Addr}
theorem Wkd.mono (w : Wkd g J ds Hg He als) (s : Same Hg Hg') : Wkd g J ds Hg' He als := by
  obtain ⟨G, Y, h1, h2, h3⟩ := w.ex
  exact ⟨G, Y, h1, fun H k => h2 H (s.trans k), h3⟩
theorem sqB_mono {K : PySem.W.Frag} {b : Bool} {a : Addr} {xs : List V} (s : Same Hg Hg') (h : SqB K b Hg a xs) : SqB K b Hg' a xs := by
  cases b with
  | true => exact s.seq h
  | false =>
    rcases (show SqT K Hg a xs from h) with (h | ⟨o, h⟩) | h
    · exact .inl (.inl (s _ _ h))
    · exact .inl (.inr ⟨o, s _ _ h⟩)
    · exact .inr h
theorem wk_seq {b : Bool} {a : Addr} {vs : List V} (h : SqB g.K b Hg a vs) (r : Reps g als He ds vs) : Wkd g (ItS g.K b a) ds Hg He als := by
  refine ⟨fun H => SqB g.K b H a vs, YAt vs, by rw [← r.length]; exact walk_S, fun H k => sqB_mono k h, fun i H x H' _ ⟨e, hx⟩ => .inl ⟨e, ?_⟩⟩
  exact r.get' hx
theorem rngD_get : ∀ (n : Nat) (lo : Int) (i : Nat), i < n → (rngD lo n)[i]? = some (.int (lo + i))
  | 0, _, _, h => absurd h (Nat.not_lt_zero _)
  | n + 1, lo, 0, _ => by simp [rngD]
  | n + 1, lo, i + 1, h => by
    unfold rngD
    rw [List.getElem?_cons_succ, rngD_get n (lo + 1) i (by omega)]
    congr 2
    omega
theorem rngD_len : ∀ (n : Nat) (lo : Int), (rngD lo n).length = n
  | 0, _ => rfl
  | n + 1, lo => by simp [rngD, rngD_len n]
theorem wk_rng {lo : Int} {n : Nat} : Wkd g (Itr lo n) (rngD lo n) Hg He als := by
  refine ⟨fun _ => True, YFn fun i => .int (lo + i), by rw [rngD_len]; exact walk_range, fun _ _ => trivial, fun i H x H' hi ⟨e, hx⟩ => .inl ⟨e, .int (lo + i), rngD_get n lo i (by rw [rngD_len] at hi; exact hi), hx⟩⟩
theorem zipD_len : ∀ (xs ys : List D), (zipD xs ys).length = min xs.length ys.length
  | [], _ => by simp [zipD]
  | _ :: _, [] => by simp [zipD]
  | x :: xs, y :: ys => by simp [zipD, zipD_len xs ys]
theorem zipD_get : ∀ (xs ys : List D) (i : Nat) (x y : D), xs[i]? = some x → ys[i]? = some y → (zipD xs ys)[i]? = some (.tup [x, y])
  | [], _, _, _, _, h, _ => by simp at h
  | _ :: _, [], _, _, _, _, h => by simp at h
  | x :: xs, y :: ys, 0, _, _, h, k => by simp at h k; subst h k; rfl
  | x :: xs, y :: ys, i + 1, _, _, h, k => by
    unfold zipD
    rw [List.getElem?_cons_succ]
    exact zipD_get xs ys i _ _ (by simpa using h) (by simpa using k)
theorem enumD_len : ∀ (xs : List D) (n : Nat), (enumD n xs).length = xs.length
  | [], _ => rfl
  | x :: xs, n => by simp [enumD, enumD_len xs]
theorem enumD_get : ∀ (xs : List D) (n i : Nat) (x : D), xs[i]? = some x → (enumD n xs)[i]? = some (.tup [.int ((n + i : Nat) : Int), x])
  | [], _, _, _, h => by simp at h
  | x :: xs, n, 0, _, h => by simp at h; subst h; rfl
  | x :: xs, n, i + 1, _, h => by
    unfold enumD
    rw [List.getElem?_cons_succ, enumD_get xs (n + 1) i _ (by simpa using h)]
    congr 4
    omega
theorem getD_of {xs : List V} {i : Nat} {v : V} (h : xs[i]? = some v) : xs.getD i .non = v := by
  rw [List.getD_eq_getElem?_getD, h]; rfl
theorem wk_zip {ba bb : Bool} {a b : Addr} {vs us : List V} {es : List D} (h1 : SqB g.K ba Hg a vs) (h2 : SqB g.K bb Hg b us) (r1 : Reps g als He ds vs) (r2 : Reps g als He es us) :
    Wkd g (ItW (fun H => SqB g.K ba H a vs ∧ SqB g.K bb H b us) (min vs.length us.length) fun i => [vs.getD i .non, us.getD i .non]) (zipD ds es) Hg He als := by
  refine ⟨fun H => SqB g.K ba H a vs ∧ SqB g.K bb H b us, fun i H v H' => ∃ T, v = .ref T ∧ H T = none ∧ H' = upd H T (.tup [vs.getD i .non, us.getD i .non]), by rw [zipD_len, ← r1.length, ← r2.length]; exact walk_wt, fun H k => ⟨sqB_mono k h1, sqB_mono k h2⟩, fun i H x H' hi ⟨T, e1, e2, e3⟩ => .inr ?_⟩
  rw [zipD_len] at hi
  have hi1 : i < ds.length := by omega
  have hi2 : i < es.length := by omega
  obtain ⟨v, hv, rv⟩ := r1.get (List.getElem?_eq_getElem hi1)
  obtain ⟨u, hu, ru⟩ := r2.get (List.getElem?_eq_getElem hi2)
  refine ⟨T, _, [_, _], e1, e2, e3, zipD_get ds es i _ _ (List.getElem?_eq_getElem hi1) (List.getElem?_eq_getElem hi2), ?_⟩
  rw [getD_of hv, getD_of hu]
  exact ⟨_, _, rfl, rv, _, _, rfl, ru, rfl⟩
theorem wk_enum {ba : Bool} {a : Addr} {vs : List V} (h1 : SqB g.K ba Hg a vs) (r1 : Reps g als He ds vs) :
    Wkd g (ItW (fun H => SqB g.K ba H a vs) vs.length fun i => [.int i, vs.getD i .non]) (enumD 0 ds) Hg He als := by
  refine ⟨fun H => SqB g.K ba H a vs, fun i H v H' => ∃ T, v = .ref T ∧ H T = none ∧ H' = upd H T (.tup [.int i, vs.getD i .non]), by rw [enumD_len, ← r1.length]; exact walk_wt, fun H k => sqB_mono k h1, fun i H x H' hi ⟨T, e1, e2, e3⟩ => .inr ?_⟩
  rw [enumD_len] at hi
  obtain ⟨v, hv, rv⟩ := r1.get (List.getElem?_eq_getElem hi)
  refine ⟨T, _, [_, _], e1, e2, e3, enumD_get ds 0 i _ (List.getElem?_eq_getElem hi), ?_⟩
  rw [getD_of hv, Nat.zero_add]
  exact ⟨_, _, rfl, rfl, _, _, rfl, rv, rfl⟩
end

/-- what a walk may lean on: with own lists (true) or on what stands still alone (false) -/
noncomputable def hg (w : Bool) (P : Addr → Prop) (al : List Addr) (H : Hp) : Hp := match w with
  | true => msk H fun b => b ∈ al
  | false => hp P al H
def RepW (w : Bool) (g : GC) (P : Addr → Prop) (al : List Addr) (H : Hp) (d : D) (v : V) : Prop := match w with
  | true => RepO g P al H d v
  | false => Rep g al (hp P al H) d v
section
variable {g : GC} {P : Addr → Prop} {al al' : List Addr} {H H' : Hp} {w : Bool} {d : D} {ds : List D} {v : V}
theorem hp_hg : Same (hp P al H) (hg w P al H) := by
  cases w with
  | true => exact msk_anti fun b hb => .inr hb
  | false => exact fun _ _ h => h
theorem hg_same : Same (hg w P al H) H := by
  cases w with
  | true => exact msk_same
  | false => exact msk_same
theorem hg_grow (gr : Grow al H al' H') : Same (hg w P al H) (hg w P al' H') := by
  cases w with
  | true =>
    intro b o e
    obtain ⟨n, q⟩ := of_msk e
    show msk _ _ b = some o
    rw [msk_of]
    · exact gr.keep b o q n
    · intro z
      rw [gr.new b z n] at q; cases q
  | false => exact gr.msk _
theorem RepW.grow (gr : Grow al H al' H') (h : RepW w g P al H d v) : RepW w g P al' H' d v := by
  cases w with
  | true => exact RepO.grow gr h
  | false => exact Rep.mono (gr.msk _) gr.pre h
theorem seqI (h : RepW w g P al H d v) (e : sqi d = some ds) : ∃ a b vs, v = .ref a ∧ SqB g.K b (hg w P al H) a vs ∧ Reps g al (hp P al H) ds vs := by
  have tree : Rep g al (hp P al H) d v → ∃ a b vs, v = .ref a ∧ SqB g.K b (hp P al H) a vs ∧ Reps g al (hp P al H) ds vs := fun h => by
    cases d with
    | tup es =>
      cases (show some es = some ds from e)
      obtain ⟨a, vs, h1, h2, h3⟩ := h
      exact ⟨a, false, vs, h1, h2, h3⟩
    | lst es =>
      cases (show some es = some ds from e)
      obtain ⟨a, vs, h1, h2, h3⟩ := h
      exact ⟨a, true, vs, h1, SqL.of h2, h3⟩
    | scr ns =>
      cases (show some (ns.map D.int) = some ds from e)
      obtain ⟨a, h1, h2⟩ := h
      exact ⟨a, true, _, h1, h2, reps_ints ns⟩
    | _ => cases e
  cases w with
  | false => exact tree h
  | true =>
    rcases h with h | ⟨ds', p, vs, e1, e2, h1, h2, h3⟩
    · obtain ⟨a, b, vs, k1, k2, k3⟩ := tree h
      exact ⟨a, b, vs, k1, sqB_mono hp_hg k2, k3⟩
    · subst e1
      cases (show some ds' = some ds from e)
      refine ⟨p, true, vs, e2, SqL.of ?_, h3⟩
      show msk _ _ p = _
      rw [msk_of h2]; exact h1
end
def rdw (w : Bool) (g : GC) (m : Sm) (fr : Fm) (E : Ex) (x : PV.X) : TE := fun σ H Q => ∃ B O al r M, Sta g fr B O al σ H r M ∧ opd x r M (wx m x E r M) fun d M' => ∀ v H' al', Grow al H al' H' → MsOk g al' (hp (hid B O) al' H') H' M' → RepW w g (hid B O) al' H' d v → Q v H'
def rdi (w : Bool) (g : GC) (m : Sm) (fr : Fm) (E : Ex) (x : PV.X) : TI := fun σ H R => ∃ B O al r M, Sta g fr B O al σ H r M ∧ wi m x E r M fun ds M' => ∀ J H' al', Grow al H al' H' → MsOk g al' (hp (hid B O) al' H') H' M' → Wkd g J ds (hg w (hid B O) al' H') (hp (hid B O) al' H') al' → R J H'
theorem _root_.L2.PI.imp {X : Cx} {tg e : Expr} {t t' : TI} (h : PI X tg e t) (k : ∀ σ H Q, t' σ H Q → t σ H Q) : PI X tg e t' := ⟨fun pins s σ H Q I q => h.run pins s σ H Q I (k _ _ _ q)⟩
section
variable {g : GC} {m : Sm} {fr : Fm} {E : Ex} {X : Cx} {a b c e : Expr} {xa xb xc x : PV.X} {pos tpos : Pos} {B : Addr → Prop} {O : Ow} {al : List Addr} {σ : L2.St} {H : Hp} {r : Ro} {M : Ms} {Q : VK} {w : Bool} {tgt : Expr}
theorem wi_iseq {Q : List D → Ms → Prop} : wi m (.iseq xa) E r M Q = opd xa r M (wx m xa E r M) fun d M' => opt (sqi d) fun ds => Q ds M' := rfl
theorem wi_izip {Q : List D → Ms → Prop} : wi m (.izip xa xb) E r M Q = opd xa r M (wx m xa E r M) fun d M1 => opd xb r M1 (wx m xb E r M1) fun e M' => opt (sqi d) fun ds => opt (sqi e) fun es => Q (zipD ds es) M' := rfl
theorem wi_ienum {Q : List D → Ms → Prop} : wi m (.ienum xa) E r M Q = opd xa r M (wx m xa E r M) fun d M' => opt (sqi d) fun ds => Q (enumD 0 ds) M' := rfl
theorem rdw_true (h : PE X e (rdo g m fr E x)) : PE X e (rdw true g m fr E x) := h
theorem rdw_false (h : PE X e (rd g m fr E x)) (hx : ∀ i, x ≠ .pk i) : PE X e (rdw false g m fr E x) := h.imp fun σ H Q ⟨B, O, al, r, M, s, q⟩ => ⟨B, O, al, r, M, s, by
  unfold opd at q
  split at q
  · exact absurd rfl (hx _)
  · exact q⟩
theorem rdw_of {K : D → Ms → Prop} {R : VK} (s : Sta g fr B O al σ H r M) (q : opd xa r M (wx m xa E r M) K)
    (k : ∀ d M1 v H1 al1, K d M1 → Grow al H al1 H1 → Sta g fr B O al1 σ H1 r M1 → RepW w g (hid B O) al1 H1 d v → R v H1) : rdw w g m fr E xa σ H R :=
  ⟨B, O, al, r, M, s, opd_mono q (fun q => wx_mono xa q (Le.refl _) fun d M1 h v H1 al1 g1 m1 r1 => k d M1 v H1 al1 h g1 (s.grow g1 m1) r1) fun d M1 h v H1 al1 g1 m1 r1 => k d M1 v H1 al1 h g1 (s.grow g1 m1) r1⟩
theorem ok_iseq (hK : X.K = g.K) (ha : PE X a (rdw w g m fr E xa)) : PI X tgt a (rdi w g m fr E (.iseq xa)) :=
  (pi_seqM ha).imp fun σ H R ⟨B, O, al, r, M, s, q⟩ => rdw_of s (wi_iseq ▸ q) fun d M1 v H1 al1 q1 g1 s1 r1 => by
    obtain ⟨ds, hd, q1⟩ := opt_iff.mp q1
    obtain ⟨a, b, vs, rfl, h1, h2⟩ := seqI r1 hd
    rw [hK]
    exact ⟨a, b, vs, rfl, sqB_mono hg_same h1, q1 _ H1 al1 g1 s1.at.ms (wk_seq h1 h2)⟩
theorem ok_irng {p : Pos} (hg : Gl X "range") (hm : X.mg "range" = none) (hs : starEach [a] X.env = [(false, eval a X.env)]) (ha : PE X a (rd g m fr E xa)) : PI X tgt (.Call (.Name "range" p) [a] [] pos) (rdi w g m fr E (.irng xa)) :=
  (pi_range1 hg hm (pa_cons ha pa_nil hs) hs).imp fun σ H R ⟨B, O, al, r, M, s, q⟩ => rd_of s (show wx m xa E r M _ from q) fun d M1 v H1 al1 q1 g1 s1 r1 => by
    obtain ⟨i, rfl, h1, h2, q1⟩ := wint_el q1
    cases (show v = _ from r1)
    unfold line at h1 h2
    exact ⟨i, rfl, by omega, by omega, q1 _ H1 al1 g1 s1.at.ms wk_rng⟩
theorem ok_irng2 {p : Pos} (hg : Gl X "range") (hm : X.mg "range" = none) (hs : starEach [a, b] X.env = [(false, eval a X.env), (false, eval b X.env)]) (hs2 : starEach [b] X.env = [(false, eval b X.env)]) (ha : PE X a (rd g m fr E xa)) (hb : PE X b (rd g m fr E xb)) :
    PI X tgt (.Call (.Name "range" p) [a, b] [] pos) (rdi w g m fr E (.irng2 xa xb)) :=
  (pi_range2 hg hm (pa_cons ha (pa_cons hb pa_nil hs2) (by rw [hs, hs2])) hs hs2).imp fun σ H R ⟨B, O, al, r, M, s, q⟩ => rd_of s (show wx m xa E r M _ from q) fun d M1 v H1 al1 q1 g1 s1 r1 => rd_of s1 q1 fun e M2 u H2 al2 q2 g2 s2 r2 => by
    obtain ⟨i, rfl, q3⟩ := wint_el q2
    obtain ⟨j, rfl, h1, h2, h3, h4, q4⟩ := wint_el q3
    cases (show v = _ from r1)
    cases (show u = _ from r2)
    unfold line at h1 h2 h3 h4
    exact ⟨i, j, rfl, ⟨by omega, by omega, by omega, by omega⟩, q4 _ H2 al2 (g1.trans g2) s2.at.ms wk_rng⟩
theorem ok_izip {p : Pos} {elts : List Expr} {kk : Nat} (hK : X.K = g.K) (hg : Gl X "zip") (hm : X.mg "zip" = none) (hs : starEach [a, b] X.env = (false, eval a X.env) :: starEach [b] X.env) (hs2 : starEach [b] X.env = (false, eval b X.env) :: starEach [] X.env) (hpl : (backTo pos (starEach [b] X.env)).any (·.1) = false)
    (ha : PE X a (rdw w g m fr E xa)) (hb : PE X b (rdw w g m fr E xb)) : PI X (.Tuple elts kk tpos) (.Call (.Name "zip" p) [a, b] [] pos) (rdi w g m fr E (.izip xa xb)) :=
  (pi_zipM hg hm (pa_cons ha (pa_cons hb pa_nil hs2) hs) hs hpl).imp fun σ H R ⟨B, O, al, r, M, s, q⟩ => rdw_of s (wi_izip ▸ q) fun d M1 v H1 al1 q1 g1 s1 r1 => rdw_of s1 q1 fun e M2 u H2 al2 q2 g2 s2 r2 => by
    obtain ⟨ds, hd, q2⟩ := opt_iff.mp q2
    obtain ⟨es, he, q2⟩ := opt_iff.mp q2
    obtain ⟨a, ba, vs, rfl, h1, h2⟩ := seqI (r1.grow g2) hd
    obtain ⟨b, bb, us, rfl, h3, h4⟩ := seqI r2 he
    rw [hK]
    exact ⟨a, b, ba, bb, vs, us, rfl, sqB_mono hg_same h1, sqB_mono hg_same h3, q2 _ H2 al2 (g1.trans g2) s2.at.ms (wk_zip h1 h3 h2 h4)⟩
theorem ok_ienum {p : Pos} {elts : List Expr} {kk : Nat} (hK : X.K = g.K) (hg : Gl X "enumerate") (hm : X.mg "enumerate" = none) (hs : starEach [a] X.env = [(false, eval a X.env)])
    (ha : PE X a (rdw w g m fr E xa)) : PI X (.Tuple elts kk tpos) (.Call (.Name "enumerate" p) [a] [] pos) (rdi w g m fr E (.ienum xa)) :=
  (pi_enumM hg hm (pa_cons ha pa_nil hs) hs).imp fun σ H R ⟨B, O, al, r, M, s, q⟩ => rdw_of s (wi_ienum ▸ q) fun d M1 v H1 al1 q1 g1 s1 r1 => by
    obtain ⟨ds, hd, q1⟩ := opt_iff.mp q1
    obtain ⟨a, ba, vs, rfl, h1, h2⟩ := seqI r1 hd
    rw [hK]
    exact ⟨a, ba, vs, rfl, sqB_mono hg_same h1, q1 _ H1 al1 g1 s1.at.ms (wk_enum h1 h2)⟩
end
end PV

set_option Elab.async false
set_option linter.all false
set_option maxRecDepth 100000
set_option maxHeartbeats 4000000
/-! PV part 8: comprehensions, new lists. -/
namespace PV
open PySem PySem.Spec PyProof.Rows L2

/-- what is wanted of a list that was just made -/
def PostF (g : GC) (P : Addr → Prop) (al : List Addr) (H : Hp) (Q : VK) (d : D) (M' : Ms) : Prop :=
  ∃ ds, d = .lst ds ∧ ∀ p vs H' al', Grow al H al' H' → MsOk g al' (hp (fun b => P b ∨ b = p) al' H') H' M' → H p = none → H' p = some (.lst vs) → p ∉ al' → ¬ P p → Reps g al' (hp (fun b => P b ∨ b = p) al' H') ds vs → Q (.ref p) H'
def rdF (g : GC) (m : Sm) (fr : Fm) (E : Ex) (x : PV.X) : TE := fun σ H Q => ∃ B O al r M, Sta g fr B O al σ H r M ∧ wx m x E r M (PostF g (hid B O) al H Q)
section
variable {g : GC} {m : Sm} {fr : Fm} {E : Ex} {X : Cx} {a b c e : Expr} {xa xb xc x : PV.X} {pos tpos : Pos} {B : Addr → Prop} {O : Ow} {al al1 : List Addr} {σ : L2.St} {H H1 : Hp} {r : Ro} {M : Ms} {Q : VK} {P : Addr → Prop}
theorem post_F {ds : List D} (h : Post g P al H Q (.lst ds) M) : PostF g P al H Q (.lst ds) M := by
  refine ⟨ds, rfl, fun p vs H' al' gr ms hn hv na nP rs => ?_⟩
  refine h _ H' al' gr (ms.weak fun b hb => .inl hb) ⟨p, vs, rfl, ?_, rs.mono (hp_anti fun b hb => .inl hb) (List.prefix_refl _)⟩
  show msk _ _ p = _
  rw [msk_of]
  · exact hv
  · rintro (z | z)
    · exact nP z
    · exact na z
/-- where only lists come out -/
theorem rdF_rd (h : PE X e (rdF g m fr E x)) (hx : ∀ E r M Q, wx m x E r M Q → wx m x E r M fun d M' => (∃ ds, d = .lst ds) ∧ Q d M') : PE X e (rd g m fr E x) := h.imp fun σ H Q ⟨B, O, al, r, M, s, q⟩ => ⟨B, O, al, r, M, s, wx_mono x (hx _ _ _ _ q) (Le.refl _) fun d M' ⟨⟨ds, hd⟩, k⟩ => by
  subst hd
  exact post_F k⟩
theorem PostF.tail {d : D} (h : PostF g P al H Q d M) (g1 : Grow al H al1 H1) (t : ∀ p, H1 p = none → H p = none) : PostF g P al1 H1 Q d M := by
  obtain ⟨ds, hd, h⟩ := h
  exact ⟨ds, hd, fun p vs H2 al2 g2 m2 hn hv na nP rs => h p vs H2 al2 (g1.trans g2) m2 (t p hn) hv na nP rs⟩
theorem back_none (ms : MsOk g al1 (hp P al1 H1) H1 M) (g1 : Grow al H al1 H1) {p : Addr} (h : H1 p = none) : H p = none := by
  cases e : H p with
  | none => rfl
  | some o =>
    by_cases ha : p ∈ al
    · have := ms.tracked (by
        obtain ⟨t, ht⟩ := g1.pre
        rw [← ht]; exact List.mem_append_left _ ha)
      rw [h] at this; cases this
    · rw [g1.keep p o e ha] at h; cases h
/-- a new list of standing values -/
theorem PostF.made {ds : List D} {vs : List V} (h : PostF g (hid B O) al H Q (.lst ds) M) (s : Sta g fr B O al σ H r M) (rs : Reps g al (hp (hid B O) al H) ds vs) : ∀ p, H p = none → Q (.ref p) (upd H p (.lst vs)) := fun p hn => by
  obtain ⟨ds', e, h⟩ := h
  cases e
  obtain ⟨f1, f2, f3⟩ := s.fresh hn
  have sh := s.hide (o := .lst vs) hn
  have e : (fun b => hid B O b ∨ b = p) = hid (fun b => B b ∨ b = p) O := by
    funext b
    exact propext ⟨fun h => by
      rcases h with (h | h) | h
      · exact .inl (.inl h)
      · exact .inr h
      · exact .inl (.inr h), fun h => by
      rcases h with (h | h) | h
      · exact .inl (.inl h)
      · exact .inr h
      · exact .inl (.inr h)⟩
  have sm : Same (hp (hid B O) al H) (hp (fun b => hid B O b ∨ b = p) al (upd H p (.lst vs))) := fun b u q => by
    obtain ⟨n, q⟩ := of_msk q
    have nb : b ≠ p := ne_of_none q hn
    unfold hp
    rw [msk_of, upd_ne nb]
    · exact q
    · rintro ((z | z) | z)
      · exact n (.inl z)
      · exact nb z
      · exact n (.inr z)
  exact h p vs _ al (Grow.upd hn) (by rw [e]; exact sh.env.ms) hn upd_same f2 f3 (rs.mono sm (List.prefix_refl _))
theorem ok_lstF {es : List Expr} {xr : PV.X} (hr : PA X es (rdl g m fr E xr)) : PE X (.List es pos) (rdF g m fr E (.lst xr)) :=
  (pe_lst hr).imp fun σ H Q ⟨B, O, al, r, M, s, q⟩ => rdl_of s q fun ds M1 vs H1 al1 q1 g1 s1 r1 =>
    ⟨by rw [r1.length]; exact Nat.le_trans q1.1 line_le, (q1.2.tail g1 fun p => back_none s1.at.ms g1).made s1 r1⟩
/-- list(x) -/
theorem ok_listF (pe : ∀ {ta : TE}, PE X a ta → PE X e fun σ H Q => ta σ H fun v H1 => r1 X.K .list [v] H1 Q) (hK : X.K = g.K) (ha : PE X a (rdo g m fr E xa)) : PE X e (rdF g m fr E (.p1 .list xa)) :=
  (pe ha).imp fun σ H Q ⟨B, O, al, r, M, s, q⟩ => rdo_of s q fun d M1 v H1 al1 q1 g1 s1 r1 => by
    rw [hK]
    obtain ⟨ds, hs, h⟩ := opt_iff.mp q1
    obtain ⟨a, vs, rfl, h1, h2⟩ := seqA s1.at r1 hs
    exact ⟨a, vs, rfl, h1, (h.tail g1 fun p => back_none s1.at.ms g1).made s1 h2⟩

/-! ### comprehensions -/
def rdc (g : GC) (m : Sm) (fr : Fm) (x : PV.X) : TT := fun σ H Q => ∃ B O al r M, Sta g fr B O al σ H r M ∧ tst x M (wx m x noX r M) fun b M' => ∀ H' al', Grow al H al' H' → MsOk g al' (hp (hid B O) al' H') H' M' → Q b H'
theorem ok_cnil : PTs X [] (rdc g m fr .nil) := ⟨fun pins s σ H Q I ⟨B, O, al, r, M, st, q⟩ => pts_nil.run pins s σ H Q I ((show ∀ H' al', Grow al H al' H' → MsOk g al' (hp (hid B O) al' H') H' M → Q true H' from q) H al (Grow.refl _ _) st.at.ms)⟩
theorem ok_cone (h : PT X c (rdt g m fr noX xc)) (hx : xc ≠ .nil) : PTs X [c] (rdc g m fr xc) := ⟨fun pins s σ H Q I ⟨B, O, al, r, M, st, q⟩ => (pts_one h).run pins s σ H Q I ⟨B, O, al, r, M, st, by
  unfold tst at q
  split at q
  · exact absurd rfl hx
  · exact q⟩⟩
theorem wipe_at : ∀ (own : List Nat) (σ : L2.St) (j : Nat), j ∈ own → j < σ.length → (wipe σ own)[j]? = some none
  | [], _, _, h, _ => by simp at h
  | i :: is, σ, j, h, hl => by
    unfold wipe
    by_cases hj : i = j
    · subst hj
      rw [List.getElem?_set_self (by rw [wipe_length]; exact hl)]
    · rw [List.getElem?_set_ne hj]
      exact wipe_at is σ j (by simp only [List.mem_cons] at h; exact h.resolve_left fun e => hj e.symm) hl
theorem wipe_eq {own : List Nat} {σ σ' : L2.St} (h : ∀ j, j ∉ own → σ'[j]? = (wipe σ own)[j]?) (hl : σ'.length = (wipe σ own).length) : wipe σ' own = wipe σ own := by
  apply List.ext_getElem?
  intro j
  by_cases hj : j ∈ own
  · by_cases hl2 : j < σ.length
    · rw [wipe_at own σ j hj hl2, wipe_at own σ' j hj (by rw [hl, wipe_length]; exact hl2)]
    · rw [List.getElem?_eq_none (by rw [wipe_length, hl, wipe_length]; omega), List.getElem?_eq_none (by rw [wipe_length]; omega)]
  · rw [wipe_get own σ' j hj, h j hj]
theorem Grow.mutNew {al al' : List Addr} {H H' : Hp} {p : Addr} {o : HO} (x : Grow al H al' H') (hn : H p = none) : Grow al H al' (L2.upd H' p o) :=
  ⟨x.pre, fun b u hu ha => by rw [upd_ne (ne_of_none hu hn)]; exact x.keep b u hu ha, x.new⟩
theorem drop_at {α : Type} {ds : List α} {i : Nat} {d : α} (h : ds[i]? = some d) : ds.drop i = d :: ds.drop (i + 1) := by
  obtain ⟨hi, e⟩ := List.getElem?_eq_some_iff.mp h
  rw [List.drop_eq_getElem_cons hi, e]
/-- the comprehension's own reading -/
theorem comp_tLc {own : List Nat} {el it c : PV.X} {t : Tg} (htg : ∀ j ∈ tgIs t, j ∈ own) (s : Sta g fr B O al σ H r M) (q : wx m (.comp own el t it c) E r M (PostF g (hid B O) al H Q)) :
    tLc (rdi true g m fr E it) (tg g.K t) (rdc g m fr c) (rd g m fr noX el) own σ H Q := by
  refine ⟨B, O, al, r, M, s, wi_mono it q (Le.refl _) fun ds M1 hk J H1 al1 g1 m1 wk D hD => ?_⟩
  obtain ⟨hlen, hk⟩ := hk
  have s1 := s.grow g1 m1
  obtain ⟨f1, f2, f3⟩ := s1.fresh hD
  obtain ⟨G, Y, w1, w2, w3⟩ := wk.ex
  have BD : ∀ b, hid (fun b => hidOs B O own b ∨ b = D) (dropOs O own) b ↔ hid B O b ∨ b = D := fun b => by
    constructor
    · rintro ((h | h) | h)
      · exact .inl (hid_Os.mp (.inl h))
      · exact .inr h
      · exact .inl (hid_Os.mp (.inr h))
    · rintro (h | h)
      · rcases hid_Os.mpr h with h | h
        · exact .inl (.inl h)
        · exact .inr h
      · exact .inl (.inr h)
  refine lc_it w1 (fun i H => ∃ al M acc vacc, Sta g fr (fun b => hidOs B O own b ∨ b = D) (dropOs O own) al (wipe σ own) H (clr own r) M ∧ H D = some (.lst vacc) ∧
    Reps g al (hp (hid (fun b => hidOs B O own b ∨ b = D) (dropOs O own)) al H) acc vacc ∧ Grow al1 H1 al H ∧
    Same (hp (hid B O) al1 H1) (hp (hid (fun b => hidOs B O own b ∨ b = D) (dropOs O own)) al H) ∧ acc.length ≤ i ∧
    cl (cturn own t r (fun r' M => tst c M (wx m c noX r' M)) fun r' M => wx m el noX r' M) (ds.drop i) acc M fun acc M' => PostF g (hid B O) al1 H1 Q (.lst acc) M') ?_ ?_ ?_ ?_
  · refine ⟨al1, M1, [], [], (s1.wipe own).hide hD, upd_same, rfl, Grow.upd hD, fun b u e => ?_, Nat.le_refl _, ?_⟩
    · obtain ⟨n, e⟩ := of_msk e
      have nb : b ≠ D := ne_of_none e hD
      show msk _ _ b = some u
      rw [msk_of, upd_ne nb]
      · exact e
      · rintro (z | z)
        · exact n (.inl (((BD b).mp z).resolve_right nb))
        · exact n (.inr z)
    · rw [List.drop_zero]
      exact cl_mono (st := cturn own t r (fun r' M => tst c M (wx m c noX r' M)) fun r' M => wx m el noX r' M) (st' := cturn own t r (fun r' M => tst c M (wx m c noX r' M)) fun r' M => wx m el noX r' M) (fun d M k k' h q => cturn_mono (tc' := fun r' M => tst c M (wx m c noX r' M)) (te' := fun r' M => wx m el noX r' M) h (fun h q => tst_mono h (fun h q => wx_mono c h (Le.refl _) q) q) (fun h q => wx_mono el h (Le.refl _) q) q) ds [] M1 hk fun acc M' h => h.tail g1 fun p => back_none s1.at.ms g1
  · rintro i H2 _ ⟨al2, M2, acc, vacc, s2, hD2, hr2, g2, sm2, _, _⟩
    exact w2 H2 fun b u e => hg_same (w := true) (P := hid B O) b u (hg_grow g2 b u e)
  · rintro i x H2 H3 hi ⟨al2, M2, acc, vacc, s2, hD2, hr2, g2, sm2, hl, q2⟩ hy
    -- the item, in H3
    have item : ∃ d, ds[i]? = some d ∧ Sta g fr (fun b => hidOs B O own b ∨ b = D) (dropOs O own) al2 (wipe σ own) H3 (clr own r) M2 ∧ Rep g al2 (hp (hid (fun b => hidOs B O own b ∨ b = D) (dropOs O own)) al2 H3) d x ∧ Grow al2 H2 al2 H3 := by
      rcases w3 i H2 x H3 hi hy with ⟨rfl, d, hd, hr⟩ | ⟨T, row, es, rfl, hT, rfl, hd, hr⟩
      · exact ⟨d, hd, s2, hr.mono sm2 g2.pre, Grow.refl _ _⟩
      · exact ⟨_, hd, s2.new hT, ⟨T, row, rfl, .inl (.inl (s2.at.seen hT)), (hr.mono sm2 g2.pre).mono ((Grow.upd (al := al2) hT).msk _) (List.prefix_refl _)⟩, Grow.upd hT⟩
    obtain ⟨d, hd, s3, rd3, g3⟩ := item
    rw [drop_at hd] at q2
    have q2 : bt M2 t d (clr own r) fun r' => tst c M2 (wx m c noX r' M2) fun b M3 => if b = true then wx m el noX r' M3 fun z M4 => cl (cturn own t r (fun r' M => tst c M (wx m c noX r' M)) fun r' M => wx m el noX r' M) (ds.drop (i + 1)) (acc ++ [z]) M4 fun acc M' => PostF g (hid B O) al1 H1 Q (.lst acc) M'
      else cl (cturn own t r (fun r' M => tst c M (wx m c noX r' M)) fun r' M => wx m el noX r' M) (ds.drop (i + 1)) acc M3 fun acc M' => PostF g (hid B O) al1 H1 Q (.lst acc) M' := q2
    refine tg_ok s3 rd3 q2 fun σ2 O2 r2 s4 q4 hO hσ hσl => ?_
    have eO : O2 = dropOs O own := by
      funext j
      rw [hO j]
      by_cases hj : j ∈ tgIs t
      · rw [if_pos hj]
        unfold dropOs; rw [if_pos (htg j hj)]
      · rw [if_neg hj]
    subst eO
    refine ⟨wipe_eq (fun j hj => hσ j fun z => hj (htg j z)) hσl, ?_⟩
    refine ⟨_, _, al2, r2, M2, s4, tst_mono q4 (fun h q => wx_mono c h (Le.refl _) q) fun b M5 q5 H5 al5 g5 m5 => ?_⟩
    have s5 := s3.grow g5 m5
    have s5' := s4.grow g5 m5
    have gg : Grow al1 H1 al5 H5 := (g2.trans g3).trans g5
    have smm : Same (hp (hid B O) al1 H1) (hp (hid (fun b => hidOs B O own b ∨ b = D) (dropOs O own)) al5 H5) := fun b u e => (g5.msk _) b u ((g3.msk _) b u (sm2 b u e))
    have na : D ∉ al2 := (s2.env.bt D (.inr rfl)).2
    have na5 : D ∉ al5 := (s5.env.bt D (.inr rfl)).2
    have hD5 : H5 D = some (.lst vacc) := g5.keep _ _ (g3.keep _ _ hD2 na) na
    have rr5 : Reps g al5 (hp (hid (fun b => hidOs B O own b ∨ b = D) (dropOs O own)) al5 H5) acc vacc := (hr2.mono (g3.msk _) g3.pre).mono (g5.msk _) g5.pre
    cases b with
    | false =>
      rw [if_neg Bool.false_ne_true] at q5
      show (if false = true then _ else _)
      rw [if_neg Bool.false_ne_true]
      exact ⟨al5, M5, acc, vacc, s5, hD5, rr5, gg, smm, by omega, q5⟩
    | true =>
      rw [if_pos rfl] at q5
      show (if true = true then _ else _)
      rw [if_pos rfl]
      refine ⟨_, _, al5, r2, M5, s5', wx_mono el q5 (Le.refl _) fun z M6 q6 y H6 al6 g6 m6 r6 => ?_⟩
      have s6 := s5.grow g6 m6
      have hi' : acc.length < sizeLine := Nat.lt_of_le_of_lt hl (Nat.lt_of_lt_of_le hi (Nat.le_trans hlen line_le))
      have hD6 : H6 D = some (.lst vacc) := g6.keep _ _ hD5 na5
      have lv : vacc.length = acc.length := hr2.length
      have na6 : D ∉ al6 := (s6.env.bt D (.inr rfl)).2
      refine ⟨vacc, hD6, by rw [lv]; exact hi', ⟨al6, M6, acc ++ [z], vacc ++ [y], s6.mut (.inr rfl) f1, upd_same, ?_, (gg.trans g6).mutNew hD, ?_, by rw [List.length_append, List.length_singleton]; omega, q6⟩⟩
      · rw [hp_upd (.inl (.inr rfl))]
        exact (rr5.mono (g6.msk _) g6.pre).append ⟨y, [], rfl, r6, rfl⟩
      · rw [hp_upd (.inl (.inr rfl))]
        exact fun b u e => (g6.msk _) b u (smm b u e)
  · rintro H2 ⟨al2, M2, acc, vacc, s2, hD2, hr2, g2, sm2, hl, q2⟩
    rw [List.drop_length] at q2
    obtain ⟨ds', e, q2⟩ := (show PostF g (hid B O) al1 H1 Q (.lst acc) M2 from q2)
    cases e
    have na : D ∉ al2 := (s2.env.bt D (.inr rfl)).2
    have eB : (fun b => hid B O b ∨ b = D) = hid (fun b => hidOs B O own b ∨ b = D) (dropOs O own) := by
      funext b; exact propext (BD b).symm
    refine q2 D vacc H2 al2 g2 ?_ hD hD2 na f3 ?_
    · rw [eB]; exact s2.env.ms
    · rw [eB]; exact hr2
end
end PV

set_option Elab.async false
set_option linter.all false
set_option maxRecDepth 100000
set_option maxHeartbeats 4000000
/-! PV part 9: statements. -/
namespace PV
open PySem PySem.Spec PyProof.Rows L2

def Stp (B : Addr → Prop) (O : Ow) (al : List Addr) (H : Hp) (O' : Ow) (al' : List Addr) (H' : Hp) : Prop := Same (hp (hid B O) al H) (hp (hid B O') al' H') ∧ al <+: al'
theorem Stp.refl {B : Addr → Prop} {O : Ow} {al : List Addr} {H : Hp} : Stp B O al H O al H := ⟨Same.refl _, List.prefix_refl _⟩
theorem Stp.trans {B : Addr → Prop} {O O1 O2 : Ow} {al al1 al2 : List Addr} {H H1 H2 : Hp} (a : Stp B O al H O1 al1 H1) (b : Stp B O1 al1 H1 O2 al2 H2) : Stp B O al H O2 al2 H2 := ⟨a.1.trans b.1, a.2.trans b.2⟩
theorem Grow.stp {B : Addr → Prop} {O : Ow} {al al1 : List Addr} {H H1 : Hp} (g1 : Grow al H al1 H1) : Stp B O al H O al1 H1 := ⟨g1.msk _, g1.pre⟩
theorem Stp.anti {B : Addr → Prop} {O O' : Ow} {al : List Addr} {H : Hp} (h : ∀ b, hid B O' b → hid B O b) : Stp B O al H O' al H := ⟨hp_anti h, List.prefix_refl _⟩
/-- what is wanted behind a statement, of values -/
def kn (g : GC) (fr : Fm) (O : Ow) (al : List Addr) (σ : L2.St) (H : Hp) (D : Ends) : Kn where
  nx := fun r' M' => ∀ σ' H' O' al', Stp fr.B0 O al H O' al' H' → Sta g fr fr.B0 O' al' σ' H' r' M' → D.nx σ' H'
  rt := fun d M' => ∀ v H' al', Grow fr.al0 fr.H0 al' H' → MsOk g al' (hp fr.B0 al' H') H' M' → Rep g al' (hp fr.B0 al' H') d v → D.rt v H'
  bk := fun r' M' => ∀ σ' H' O' al', Stp fr.B0 O al H O' al' H' → Sta g fr fr.B0 O' al' σ' H' r' M' → D.bk σ' H'
  ct := fun r' M' => ∀ σ' H' O' al', Stp fr.B0 O al H O' al' H' → Sta g fr fr.B0 O' al' σ' H' r' M' → D.ct σ' H'
def rds (g : GC) (m : Sm) (fr : Fm) (E : Ex) (x : S) : TS := fun D σ H => ∃ O al r M, Sta g fr fr.B0 O al σ H r M ∧ ws m x E r M (kn g fr O al σ H D)
section
variable {g : GC} {m : Sm} {fr : Fm} {E : Ex} {X : Cx} {a b c e : Expr} {xa xb xc x : PV.X} {pos tpos : Pos} {B : Addr → Prop} {O O1 : Ow} {al al1 : List Addr} {σ σ1 : L2.St} {H H1 : Hp} {r r1 : Ro} {M M1 : Ms} {D : Ends} {st : Stmt} {sa sb : S}
theorem kn_tail (h : Stp fr.B0 O al H O1 al1 H1) : KLe (kn g fr O al σ H D) (kn g fr O1 al1 σ1 H1 D) :=
  ⟨fun _ _ k σ' H' O' al' p s => k σ' H' O' al' (h.trans p) s, fun _ _ k => k, fun _ _ k σ' H' O' al' p s => k σ' H' O' al' (h.trans p) s, fun _ _ k σ' H' O' al' p s => k σ' H' O' al' (h.trans p) s⟩
theorem ok_snil : PSs X [] (rds g m fr E .skip) := pss_nil.imp fun D σ H ⟨O, al, r, M, s, q⟩ => (show (kn g fr O al σ H D).nx r M from q) σ H O al .refl s
theorem ok_seq {rest : List Stmt} (ha : PS X st (rds g m fr E sa)) (hb : PSs X rest (rds g m fr E sb)) : PSs X (st :: rest) (rds g m fr E (.seq sa sb)) :=
  (pss_cons ha hb).imp fun D σ H ⟨O, al, r, M, s, q⟩ => ⟨O, al, r, M, s, ws_mono sa q (Le.refl _) ⟨fun r' M' k σ' H' O' al' p s' => ⟨O', al', r', M', s', ws_mono sb k (Le.refl _) (kn_tail p)⟩, fun _ _ k => k, fun _ _ k => k, fun _ _ k => k⟩⟩
theorem ok_sone (ha : PS X st (rds g m fr E sa)) : PSs X [st] (rds g m fr E sa) := pss_one ha
theorem ok_pas : PS X (.Pass pos) (rds g m fr E .pas) := ps_pass.imp fun D σ H ⟨O, al, r, M, s, q⟩ => (show (kn g fr O al σ H D).nx r M from q) σ H O al .refl s
theorem ok_brk : PS X (.Break pos) (rds g m fr E .brk) := ps_break.imp fun D σ H ⟨O, al, r, M, s, q⟩ => (show (kn g fr O al σ H D).bk r M from q) σ H O al .refl s
theorem ok_cont : PS X (.Continue pos) (rds g m fr E .cont) := ps_continue.imp fun D σ H ⟨O, al, r, M, s, q⟩ => (show (kn g fr O al σ H D).ct r M from q) σ H O al .refl s
theorem ok_expr (ha : PE X e (rd g m fr E xa)) (hs : swapsWith e none pos.line X.env = pure false) : PS X (.Expr e pos) (rds g m fr E (.expr xa)) :=
  (ps_expr ha hs).imp fun D σ H ⟨O, al, r, M, s, q⟩ => rd_of s q fun d M1 v H1 al1 q1 g1 s1 r1 => q1 σ H1 O al1 g1.stp s1
theorem retOk (s : Sta g fr fr.B0 O al σ H r M) {d : PV.D} {v : V} (hr : Rep g al (hp (hid fr.B0 O) al H) d v) {Q : VK} (q : ∀ v H' al', Grow fr.al0 fr.H0 al' H' → MsOk g al' (hp fr.B0 al' H') H' M → Rep g al' (hp fr.B0 al' H') d v → Q v H') : Q v H :=
  q v H al s.env.gr (s.env.ms.weak fun b hb => .inl hb) (hr.mono (hp_anti fun b hb => .inl hb) (List.prefix_refl _))
theorem ok_ret (ha : PE X e (rd g m fr E xa)) : PS X (.Return (some e) pos) (rds g m fr E (.ret xa)) :=
  (ps_ret ha).imp fun D σ H ⟨O, al, r, M, s, q⟩ => rd_of s q fun d M1 v H1 al1 q1 g1 s1 r1 => retOk s1 r1 q1
theorem ok_retN : PS X (.Return none pos) (rds g m fr E .retN) := ps_retN.imp fun D σ H ⟨O, al, r, M, s, q⟩ => retOk (d := .non) s rfl q
theorem ok_sife {ba bb : List Stmt} (hc : PT X c (rdt g m fr E xc)) (ha : PSs X ba (rds g m fr E sa)) (hb : PSs X bb (rds g m fr E sb)) : PS X (.If c ba bb pos) (rds g m fr E (.ife xc sa sb)) :=
  (ps_if hc ha hb).imp fun D σ H ⟨O, al, r, M, s, q⟩ => rdt_of s q fun d M1 q1 => wb_mono q1 fun k q1 H1 al1 g1 s1 => by
    cases k with
    | true => exact ⟨O, al1, r, M1, s1, ws_mono sa q1 (Le.refl _) (kn_tail g1.stp)⟩
    | false => exact ⟨O, al1, r, M1, s1, ws_mono sb q1 (Le.refl _) (kn_tail g1.stp)⟩
/-! ### names stored -/
theorem ok_asg {t : Tg} {tgE : Expr} (hK : X.K = g.K) (ha : PE X e (rd g m fr E xa)) (hg : PG X tgE (tg X.K t)) (hs : swapsWithSole [tgE] e pos.line X.env = pure false) (hw : swappedStores [tgE] e X.env = pure none)
    (h1 : (assignEach [tgE] X.env).map (·.2) = [assign tgE X.env]) : PS X (.Assign [tgE] e pos) (rds g m fr E (.asg t xa)) :=
  (ps_asg ha hg hs hw h1).imp fun D σ H ⟨O, al, r, M, s, q⟩ => rd_of s q fun d M1 v H1 al1 q1 g1 s1 r1 => by
    rw [hK]
    exact tg_ok s1 r1 q1 fun σ' O' r' s' k hO _ _ => k σ' H1 O' al1 (g1.stp.trans (.anti fun b hb => hb.imp id fun ⟨i, hi⟩ => ⟨i, by
      rw [hO i] at hi
      split at hi
      · cases hi
      · exact hi⟩)) s'
/-- a slot becomes the owner of a new list -/
def putO (O : Ow) (i : Nat) (p : Addr) : Ow := fun j => if j = i then some p else O j
theorem putO_el {i j : Nat} {p q : Addr} (h : putO O i p j = some q) : (j = i ∧ q = p) ∨ (j ≠ i ∧ O j = some q) := by
  unfold putO at h
  split at h
  · cases h; exact .inl ⟨by assumption, rfl⟩
  · exact .inr ⟨by assumption, h⟩
theorem Sta.own_put {ps : Addr → Prop} {i : Nat} {p : Addr} {ds : List PV.D} {vs : List V} (s : Sta g fr (fun b => B b ∨ b = p) O al σ H r M) (hsub : ∀ b, fr.B0 b → B b) (hi : i < r.length) (hv : H p = some (.lst vs)) (hB : ¬ B p) (h0 : fr.H0 p = none)
    (hr : Reps g al (hp (hid (fun b => B b ∨ b = p) O) al H) ds vs) : Sta g fr B (putO O i p) al (σ.set i (some (.ref p))) H (r.set i (.own ds)) M := by
  have hh : ∀ b, hid B (putO O i p) b → hid (fun b => B b ∨ b = p) O b := fun b hb => by
    rcases hb with hb | ⟨j, hj⟩
    · exact .inl (.inl hb)
    · rcases putO_el hj with ⟨_, h⟩ | ⟨_, h⟩
      · exact .inl (.inr h)
      · exact .inr ⟨j, h⟩
  have sm : Same (hp (hid (fun b => B b ∨ b = p) O) al H) (hp (hid B (putO O i p)) al H) := hp_anti hh
  have na : p ∉ al := (s.env.bt p (.inr rfl)).2
  have nO : ∀ j, O j ≠ some p := fun j hj => (s.env.fr j p hj).2.2.1 (.inr rfl)
  refine ⟨⟨by simp [s.env.len], fun j t ht => ?_, fun a b q h1 h2 => ?_, fun j q h => ?_, fun j q h => ?_, s.env.ms.weak hh, fun b hb => s.env.bt b (.inl hb), s.env.gr⟩, hsub⟩
  · by_cases hj : j = i
    · subst hj
      rw [List.getElem?_set_self hi] at ht
      cases ht
      refine ⟨p, vs, by unfold putO; rw [if_pos rfl], ?_, hv, hr.mono sm (List.prefix_refl _)⟩
      rw [List.getElem?_set_self (by rw [s.env.len]; exact hi)]
    · rw [List.getElem?_set_ne (Ne.symm hj)] at ht
      have q := s.env.sl j t ht
      have e : putO O i p j = O j := by unfold putO; rw [if_neg hj]
      rw [List.getElem?_set_ne (Ne.symm hj), e]
      cases t with
      | un => exact q
      | val d =>
        obtain ⟨q1, v, q2, q3⟩ := q
        exact ⟨q1, v, q2, q3.mono sm (List.prefix_refl _)⟩
      | own ds =>
        obtain ⟨p, vs, q1, q2, q3, q4⟩ := q
        exact ⟨p, vs, q1, q2, q3, q4.mono sm (List.prefix_refl _)⟩
  · rcases putO_el h1 with ⟨e1, e2⟩ | ⟨e1, e2⟩
    · rcases putO_el h2 with ⟨f1, _⟩ | ⟨_, f2⟩
      · rw [e1, f1]
      · subst e2; exact absurd f2 (nO b)
    · rcases putO_el h2 with ⟨_, f2⟩ | ⟨_, f2⟩
      · subst f2; exact absurd e2 (nO a)
      · exact s.env.inj a b q e2 f2
  · rw [List.length_set]
    rcases putO_el h with ⟨rfl, _⟩ | ⟨_, h⟩
    · exact hi
    · exact s.env.lt j q h
  · rcases putO_el h with ⟨_, rfl⟩ | ⟨_, h⟩
    · exact ⟨h0, na, hB, by rw [hv]; rfl⟩
    · have := s.env.fr j q h
      exact ⟨this.1, this.2.1, fun z => this.2.2.1 (.inl z), this.2.2.2⟩
/-- from a new list: the state with it hidden -/
theorem Sta.of_F {p : Addr} {al' : List Addr} {H' : Hp} {M' : Ms} {o : HO} (s : Sta g fr B O al σ H r M) (gr : Grow al H al' H') (ms : MsOk g al' (hp (fun b => hid B O b ∨ b = p) al' H') H' M') (hn : H p = none) (hv : H' p = some o) (na : p ∉ al') (nP : ¬ hid B O p) :
    Sta g fr (fun b => B b ∨ b = p) O al' σ H' r M' ∧ (fun b => hid B O b ∨ b = p) = hid (fun b => B b ∨ b = p) O := by
  have eB : (fun b => hid B O b ∨ b = p) = hid (fun b => B b ∨ b = p) O := by
    funext b
    exact propext ⟨fun h => by
      rcases h with (h | h) | h
      · exact .inl (.inl h)
      · exact .inr h
      · exact .inl (.inr h), fun h => by
      rcases h with (h | h) | h
      · exact .inl (.inl h)
      · exact .inr h
      · exact .inl (.inr h)⟩
  refine ⟨?_, eB⟩
  have sm : Same (hp (hid B O) al H) (hp (hid (fun b => B b ∨ b = p) O) al' H') := fun b u q => by
    rw [← eB]
    obtain ⟨n, q1⟩ := of_msk q
    obtain ⟨n2, q2⟩ := of_msk (gr.msk _ b u q)
    have nb : b ≠ p := ne_of_none q1 hn
    show msk _ _ b = some u
    rw [msk_of]
    · exact q2
    · rintro ((z | z) | z)
      · exact n2 (.inl z)
      · exact nb z
      · exact n2 (.inr z)
  have tr : ∀ b, hid B O b → (H' b).isSome = true ∧ b ∉ al' := fun b hb => by
    obtain ⟨h1, h2⟩ := s.hidT hb
    obtain ⟨o, ho⟩ := Option.isSome_iff_exists.mp h1
    refine ⟨by rw [gr.keep b o ho h2]; rfl, fun z => ?_⟩
    have := gr.new b z h2
    rw [this] at h1; cases h1
  refine ⟨⟨s.env.len, fun i t ht => ?_, s.env.inj, s.env.lt, fun i q hq => ?_, by rw [eB] at ms; exact ms, fun b hb => ?_, s.env.gr.trans gr⟩, fun b hb => .inl (s.sub b hb)⟩
  · have q := s.env.sl i t ht
    cases t with
    | un => exact q
    | val d =>
      obtain ⟨q1, v, q2, q3⟩ := q
      exact ⟨q1, v, q2, q3.mono sm gr.pre⟩
    | own ds =>
      obtain ⟨p', vs, q1, q2, q3, q4⟩ := q
      exact ⟨p', vs, q1, q2, gr.keep _ _ q3 (s.env.fr i p' q1).2.1, q4.mono sm gr.pre⟩
  · have := s.env.fr i q hq
    have t := tr q (.inr ⟨i, hq⟩)
    refine ⟨this.1, t.2, ?_, t.1⟩
    rintro (z | z)
    · exact this.2.2.1 z
    · subst z
      exact nP (.inr ⟨i, hq⟩)
  · rcases hb with hb | hb
    · exact tr b (.inl hb)
    · subst hb
      exact ⟨by rw [hv]; rfl, na⟩
theorem ok_asgO {i : Nat} {te : TE} {tgE : Expr} (ha : ∀ σ H Q, rdF g m fr E xa σ H Q → te σ H Q) (ps : PS X st (tAsg te (gName i))) : PS X st (rds g m fr E (.asgO i xa)) :=
  ps.imp fun D σ H ⟨O, al, r, M, s, q⟩ => ha σ H _ ⟨fr.B0, O, al, r, M, s, wx_mono xa q (Le.refl _) fun d M1 k => by
    cases d <;> first | exact (show False from k).elim | skip
    rename_i ds
    obtain ⟨hi, k⟩ := k
    refine ⟨ds, rfl, fun p vs H' al' gr ms hn hv na nP rs => ?_⟩
    obtain ⟨s1, eB⟩ := s.of_F gr ms hn hv na nP
    have f0 := s.fresh hn
    have s2 := s1.own_put (ps := fun _ => True) s.sub hi hv (fun z => nP (.inl z)) f0.1 (by rw [← eB]; exact rs)
    refine k _ H' _ al' ⟨fun b u q => ?_, gr.pre⟩ s2
    obtain ⟨n, q1⟩ := of_msk q
    obtain ⟨n2, q2⟩ := of_msk (gr.msk _ b u q)
    have nb : b ≠ p := ne_of_none q1 hn
    show msk _ _ b = some u
    rw [msk_of]
    · exact q2
    · rintro ((z | ⟨j, hj⟩) | z)
      · exact n2 (.inl (.inl z))
      · rcases putO_el hj with ⟨_, h⟩ | ⟨_, h⟩
        · exact nb h
        · exact n2 (.inl (.inr ⟨j, h⟩))
      · exact n2 (.inr z)⟩
/-- an own list changes -/
theorem Sta.own_mut {i : Nat} {p : Addr} {ds : List PV.D} {vs : List V} (s : Sta g fr B O al σ H r M) (hO : O i = some p) (hr : Reps g al (hp (hid B O) al H) ds vs) : Sta g fr B O al σ (upd H p (.lst vs)) (r.set i (.own ds)) M := by
  have e : hp (hid B O) al (upd H p (.lst vs)) = hp (hid B O) al H := hp_upd (.inr ⟨i, hO⟩)
  have hi := s.env.lt i p hO
  have f := s.env.fr i p hO
  refine ⟨⟨by rw [List.length_set]; exact s.env.len, fun j t ht => ?_, s.env.inj, fun j q hq => by rw [List.length_set]; exact s.env.lt j q hq, fun j q hq => ?_, ⟨s.env.ms.len, s.env.ms.nd, fun k a mo h1 h2 => ?_⟩, fun b hb => ?_, ⟨s.env.gr.pre, fun b u hu hn => ?_, s.env.gr.new⟩⟩, s.sub⟩
  · show SlOk g al (hp (hid B O) al (upd H p (.lst vs))) _ _ _ _
    rw [e]
    by_cases hj : j = i
    · subst hj
      rw [List.getElem?_set_self hi] at ht
      cases ht
      refine ⟨p, vs, hO, ?_, upd_same, hr⟩
      have q := s.env.sl j r[j] (List.getElem?_eq_getElem hi)
      cases er : r[j] with
      | un => rw [er] at q; rw [show O j = none from q] at hO; cases hO
      | val d => rw [er] at q; rw [q.1] at hO; cases hO
      | own es =>
        rw [er] at q
        obtain ⟨p', _, q1, q2, _⟩ := q
        rw [hO] at q1; cases q1
        exact q2
    · rw [List.getElem?_set_ne (Ne.symm hj)] at ht
      have q := s.env.sl j t ht
      cases t with
      | un => exact q
      | val d => exact q
      | own es =>
        obtain ⟨p', us, q1, q2, q3, q4⟩ := q
        have np : p' ≠ p := fun z => hj (s.env.inj j i p (by rw [← z]; exact q1) hO)
        exact ⟨p', us, q1, q2, by rw [upd_ne np]; exact q3, q4⟩
  · have := s.env.fr j q hq
    refine ⟨this.1, this.2.1, this.2.2.1, ?_⟩
    by_cases hb : q = p
    · subst hb; rw [upd_same]; rfl
    · rw [upd_ne hb]; exact this.2.2.2
  · have q := s.env.ms.at_ k a mo h1 h2
    have ha : a ≠ p := fun z => f.2.1 (by rw [← z]; exact List.mem_of_getElem? h1)
    show MoOk g al (hp (hid B O) al (upd H p (.lst vs))) _ _ _
    rw [e]
    exact q.mono (Same.refl _) (List.prefix_refl _) (upd_ne ha)
  · have := s.env.bt b hb
    have nb : b ≠ p := fun z => f.2.2.1 (by rw [← z]; exact hb)
    rw [upd_ne nb]; exact this
  · have nb : b ≠ p := ne_of_none hu f.1
    rw [upd_ne nb]; exact s.env.gr.keep b u hu hn
theorem stp_mut {i : Nat} {p : Addr} {o : HO} (hO : O i = some p) : Stp B O al H O al (upd H p o) := ⟨fun b u q => by rw [hp_upd (.inr ⟨i, hO⟩)]; exact q, List.prefix_refl _⟩
/-- found.append(e) -/
theorem ok_app {i : Nat} (hK : X.K = g.K) (pe : PE X e (tBM X.K "list" rAppend (tVar i) (tCons (rd g m fr E xa) tNil))) (hs : swapsWith e none pos.line X.env = pure false) : PS X (.Expr e pos) (rds g m fr E (.app i xa)) :=
  (ps_expr pe hs).imp fun D σ H ⟨O, al, r, M, s, q⟩ => by
    obtain ⟨ds, hd, q⟩ := ownv_el q
    obtain ⟨p, vs, h1, h2, h3, h4, h5⟩ := s.own hd
    refine ⟨.ref p, h2, .inl ⟨rfl, _, SqL.of h3⟩, rd_of s q fun d M1 v H1 al1 q1 g1 s1 r1 => ?_⟩
    have hp1 := g1.keep _ _ h3 h4
    have rs := h5.mono (g1.msk _) g1.pre
    refine ⟨p, vs, v, rfl, rfl, hp1, by rw [rs.length]; exact Nat.lt_of_lt_of_le q1.1 line_le, ?_⟩
    exact q1.2 σ _ O al1 (g1.stp.trans (stp_mut h1)) (s1.own_mut h1 (rs.append ⟨v, [], rfl, r1, rfl⟩))
/-- found.extend(e) -/
theorem ok_ext {i : Nat} (hK : X.K = g.K) (pe : PE X e (tBM X.K "list" rExtend (tVar i) (tCons (rdo g m fr E xa) tNil))) (hs : swapsWith e none pos.line X.env = pure false) : PS X (.Expr e pos) (rds g m fr E (.ext i xa)) :=
  (ps_expr pe hs).imp fun D σ H ⟨O, al, r, M, s, q⟩ => by
    obtain ⟨ds, hd, q⟩ := ownv_el q
    obtain ⟨p, vs, h1, h2, h3, h4, h5⟩ := s.own hd
    refine ⟨.ref p, h2, .inl ⟨rfl, _, SqL.of h3⟩, rdo_of s q fun d M1 v H1 al1 q1 g1 s1 r1 => ?_⟩
    cases d <;> first | exact (show False from q1).elim | skip
    rename_i es
    obtain ⟨hl, q1⟩ := q1
    obtain ⟨b, us, rfl, h6, h7⟩ := repO_lst r1
    have hp1 := g1.keep _ _ h3 h4
    have rs := h5.mono (g1.msk _) g1.pre
    refine ⟨p, b, vs, us, rfl, rfl, hp1, h6, by rw [rs.length, h7.length]; exact Nat.le_trans hl line_le, ?_⟩
    exact q1 σ _ O al1 (g1.stp.trans (stp_mut h1)) (s1.own_mut h1 (rs.append h7))
/-- found[j] = e -/
theorem ok_setI {i : Nat} {oE jE : Expr} {p1 : Pos} (ha : PE X e (rd g m fr E xa)) (ho : PE X oE (tVar i)) (hj : PE X jE (rd g m fr E xb)) (hs : swapsWithSole [.Subscript oE jE p1] e pos.line X.env = pure false) (hw : swappedStores [.Subscript oE jE p1] e X.env = pure none)
    (h1 : (assignEach [.Subscript oE jE p1] X.env).map (·.2) = [assign (.Subscript oE jE p1) X.env]) (hsub : ∀ v, assign (.Subscript oE jE p1) X.env v = (do
      let ov ← holding [v] (eval oE X.env)
      let iv ← holding [v, ov] (eval jE X.env)
      standAt p1
      holding [v, ov, iv] (setItem ov iv v)
      release [v, ov, iv] [])) : PS X (.Assign [.Subscript oE jE p1] e pos) (rds g m fr E (.setI i xb xa)) :=
  (ps_asg ha (pg_sub ho hj set_list hsub) hs hw h1).imp fun D σ H ⟨O, al, r, M, s, q⟩ => by
    obtain ⟨ds, hd, q⟩ := ownv_el q
    refine rd_of s q fun d M1 v H1 al1 q1 g1 s1 r1 => ?_
    obtain ⟨p, vs, h1, h2, h3, h4, h5⟩ := s1.own hd
    refine ⟨.ref p, h2, rd_of s1 q1 fun d2 M2 u H2 al2 q2 g2 s2 r2 => ?_⟩
    obtain ⟨n, rfl, q2⟩ := wint_el q2
    obtain ⟨k, hk, q2⟩ := opt_iff.mp q2
    have hp1 := g2.keep _ _ h3 h4
    have rs := h5.mono (g2.msk _) g2.pre
    refine ⟨p, vs, n, k, rfl, r2, hp1, by rw [rs.length]; exact hk, ?_⟩
    exact q2 σ _ O al2 ((g1.stp.trans g2.stp).trans (stp_mut h1)) (s2.own_mut h1 (rs.set k (r1.mono (g2.msk _) g2.pre)))
/-- target = found.pop() -/
theorem ok_popT {i : Nat} {t : Tg} {tgE : Expr} (hK : X.K = g.K) (pe : PE X e (tBM0 X.K "list" rPop (tVar i))) (hg : PG X tgE (tg X.K t)) (hs : swapsWithSole [tgE] e pos.line X.env = pure false) (hw : swappedStores [tgE] e X.env = pure none)
    (h1 : (assignEach [tgE] X.env).map (·.2) = [assign tgE X.env]) : PS X (.Assign [tgE] e pos) (rds g m fr E (.popT t i)) :=
  (ps_asg pe hg hs hw h1).imp fun D σ H ⟨O, al, r, M, s, q⟩ => by
    obtain ⟨ds, hd, q⟩ := ownv_el q
    obtain ⟨d, hx, q⟩ := opt_iff.mp q
    obtain ⟨p, vs, h1, h2, h3, h4, h5⟩ := s.own hd
    obtain ⟨v, hv, rv⟩ := h5.get hx
    refine ⟨.ref p, h2, .inl ⟨rfl, _, SqL.of h3⟩, p, vs, v, rfl, rfl, h3, by rw [h5.length]; exact hv, ?_⟩
    have s1 := s.own_mut h1 h5.dropLast
    rw [hK]
    refine tg_ok s1 (v := v) (d := d) (by rw [hp_upd (.inr ⟨i, h1⟩)]; exact rv) q fun σ' O' r' s' k hO _ _ => k σ' _ O' al ((stp_mut h1).trans (.anti fun b hb => hb.imp id fun ⟨i, hi⟩ => ⟨i, by
      rw [hO i] at hi
      split at hi
      · cases hi
      · exact hi⟩)) s'
/-- name += e, name -= e (ints) -/
theorem ok_aug {i : Nat} {p : P2} {nm : Str} {op : Operator} {p1 : Pos} (hp : (p = .add ∧ op = .Add) ∨ (p = .sub ∧ op = .Sub)) (ha : PE X e (rd g m fr E xa)) (pe : ∀ {te : TE} {ti : TIp}, PE X e te → PIp X op ti → PS X (.AugAssign (.Name nm p1) op e pos) (tAug i te ti)) :
    PS X (.AugAssign (.Name nm p1) op e pos) (rds g m fr E (.aug i p xa)) := by
  have fin : ∀ {O al r M D σ H} {f : Int → Int → Int}, Sta g fr fr.B0 O al σ H r M → (val r i fun d => wx m xa E r M fun e M' => wII d e fun a b => (kn g fr O al σ H D).nx (r.set i (.val (.int (f a b)))) M') → tAug i (rd g m fr E xa) (ipI f) D σ H := fun {O al r M D σ H f} s q => by
    obtain ⟨d, hd, q⟩ := val_el q
    obtain ⟨v, hv, rv⟩ := s.val hd
    refine ⟨v, hv, rd_of s q fun d2 M1 u H1 al1 q1 g1 s1 r1 => ?_⟩
    obtain ⟨a, b, rfl, rfl, q1⟩ := wII_el q1
    refine ⟨a, b, rv, r1, ?_⟩
    have hi : i < r.length := (List.getElem?_eq_some_iff.mp hd).1
    exact q1 _ H1 _ al1 (g1.stp.trans (.anti fun b hb => hid_drop hb)) (s1.set (d := .int (f a b)) hi rfl)
  rcases hp with ⟨rfl, rfl⟩ | ⟨rfl, rfl⟩
  · exact (pe ha ip_add).imp fun D σ H ⟨O, al, r, M, s, q⟩ => fin (f := fun a b => a + b) s q
  · exact (pe ha ip_sub).imp fun D σ H ⟨O, al, r, M, s, q⟩ => fin (f := fun a b => a - b) s q
/-- an own list stands still from here on -/
theorem frz_imp {i : Nat} {D : Ends} {σ : L2.St} {H : Hp} (h : rds g m fr E (.frz i sa) D σ H) : rds g m fr E sa D σ H := by
  obtain ⟨O, al, r, M, s, q⟩ := h
  obtain ⟨ds, hd, q⟩ := ownv_el q
  obtain ⟨p, vs, h1, h2, h3, h4, h5⟩ := s.own hd
  have hi := s.env.lt i p h1
  have nB : ¬ fr.B0 p := (s.env.fr i p h1).2.2.1
  have sub : ∀ b, hid fr.B0 (dropO O i) b → hid fr.B0 O b := fun b hb => hid_drop hb
  have sm : Same (hp (hid fr.B0 O) al H) (hp (hid fr.B0 (dropO O i)) al H) := hp_anti sub
  have seen : hp (hid fr.B0 (dropO O i)) al H p = some (.lst vs) := by
    show msk _ _ p = _
    rw [msk_of]
    · exact h3
    · rintro ((z | ⟨j, hj⟩) | z)
      · exact nB z
      · obtain ⟨n, hj⟩ := dropO_some hj
        exact n (s.env.inj j i p hj h1)
      · exact h4 z
  refine ⟨dropO O i, al, r.set i (.val (.lst ds)), M, ⟨⟨by rw [List.length_set]; exact s.env.len, fun j t ht => ?_, fun a b p h1 h2 => s.env.inj a b p (dropO_some h1).2 (dropO_some h2).2, fun j p h => by rw [List.length_set]; exact s.env.lt j p (dropO_some h).2, fun j p h => s.env.fr j p (dropO_some h).2, s.env.ms.weak sub, s.env.bt, s.env.gr⟩, s.sub⟩, ws_mono sa q (Le.refl _) (kn_tail (.anti sub))⟩
  by_cases hj : j = i
  · subst hj
    rw [List.getElem?_set_self hi] at ht
    cases ht
    exact ⟨by unfold dropO; rw [if_pos rfl], _, h2, p, vs, rfl, seen, h5.mono sm (List.prefix_refl _)⟩
  · rw [List.getElem?_set_ne (Ne.symm hj)] at ht
    have q := s.env.sl j t ht
    have e : dropO O i j = O j := by unfold dropO; rw [if_neg hj]
    rw [e]
    cases t with
    | un => exact q
    | val d =>
      obtain ⟨q1, v, q2, q3⟩ := q
      exact ⟨q1, v, q2, q3.mono sm (List.prefix_refl _)⟩
    | own ds =>
      obtain ⟨p, vs, q1, q2, q3, q4⟩ := q
      exact ⟨p, vs, q1, q2, q3, q4.mono sm (List.prefix_refl _)⟩
/-! ### loops -/
theorem ok_while {body : List Stmt} (hp : PassesOwn (model X.prog X.w) X.A X.env X.xe) (hc : PT X c (rdt g m fr E xc)) (hb : PSs X body (rds g m fr E sb)) : PS X (.While c body [] pos) (rds g m fr E (.while_ xc sb)) :=
  (ps_while hp hc hb).imp fun D σ H ⟨O, al, r, M, s, q⟩ => by
    obtain ⟨I, ⟨n0, hI⟩, turn⟩ := q
    refine ⟨fun n σ' H' => ∃ O' al' r' M', Stp fr.B0 O al H O' al' H' ∧ Sta g fr fr.B0 O' al' σ' H' r' M' ∧ I n r' M', ⟨n0, O, al, r, M, .refl, s, hI⟩, ?_⟩
    rintro n σ1 H1 ⟨O1, al1, r1, M1, p1, s1, i1⟩
    refine rdt_of s1 (turn n r1 M1 i1) fun d M2 q2 => wb_mono q2 fun k q2 H2 al2 g2 s2 => ?_
    cases k with
    | false =>
      rw [if_neg Bool.false_ne_true] at q2
      show (if false = true then _ else _)
      rw [if_neg Bool.false_ne_true]
      exact q2 _ _ _ _ (p1.trans g2.stp) s2
    | true =>
      rw [if_pos rfl] at q2
      show (if true = true then _ else _)
      rw [if_pos rfl]
      refine ⟨fun σ' H' => ∃ n', n' < n ∧ ∃ O' al' r' M', Stp fr.B0 O al H O' al' H' ∧ Sta g fr fr.B0 O' al' σ' H' r' M' ∧ I n' r' M', fun σ' H' h => h, ?_⟩
      refine ⟨O1, al2, r1, M2, s2, ws_mono sb q2 (Le.refl _) ⟨fun r' M' ⟨n', hn, hi⟩ σ' H' O' al' p s' => ⟨n', hn, O', al', r', M', (p1.trans g2.stp).trans p, s', hi⟩, fun _ _ k => k, fun r' M' k σ' H' O' al' p s' => k σ' H' O' al' ((p1.trans g2.stp).trans p) s', fun r' M' ⟨n', hn, hi⟩ σ' H' O' al' p s' => ⟨n', hn, O', al', r', M', (p1.trans g2.stp).trans p, s', hi⟩⟩⟩
theorem ok_for {t : Tg} {tgE it : Expr} {xi : PV.X} {body : List Stmt} (hK : X.K = g.K) (hpo : PassesOwn (model X.prog X.w) X.A X.env X.xe) (hcalm : X.calm = true) (hi : PI X tgE it (rdi false g m fr E xi)) (hg : PG X tgE (tg X.K t)) (hb : PSs X body (rds g m fr E sb))
    (hs : ∀ x, foldedSetIterable it X.env x = pure x) : PS X (.For tgE it body [] pos) (rds g m fr E (.for_ t xi sb)) :=
  (ps_for hpo hcalm hi hg hb hs).imp fun D σ H ⟨O, al, r, M, s, q⟩ => by
    refine ⟨fr.B0, O, al, r, M, s, wi_mono xi q (Le.refl _) fun ds M1 hk J H1 al1 g1 m1 wk => ?_⟩
    have s1 := s.grow g1 m1
    obtain ⟨G, Y, w1, w2, w3⟩ := wk.ex
    refine for_it w1 (fun i σ' H' => ∃ O' al' r' M', Stp fr.B0 O al1 H1 O' al' H' ∧ Sta g fr fr.B0 O' al' σ' H' r' M' ∧ fl (fun d r M k' => bt M t d r fun r' => ws m sb E r' M k') (ds.drop i) r' M' (kn g fr O al σ H D)) ⟨O, al1, r, M1, .refl, s1, by rw [List.drop_zero]; exact hk⟩ ?_ ?_ ?_
    · rintro i σ' H' _ ⟨O', al', r', M', p', s', _⟩
      exact w2 H' fun b u e => hp_same b u (p'.1 b u e)
    · rintro i x σ2 H2 H3 hi ⟨O2, al2, r2, M2, p2, s2, q2⟩ hy
      have item : ∃ d, ds[i]? = some d ∧ Sta g fr fr.B0 O2 al2 σ2 H3 r2 M2 ∧ Rep g al2 (hp (hid fr.B0 O2) al2 H3) d x ∧ Grow al2 H2 al2 H3 := by
        rcases w3 i H2 x H3 hi hy with ⟨rfl, d, hd, hr⟩ | ⟨T, row, es, rfl, hT, rfl, hd, hr⟩
        · exact ⟨d, hd, s2, hr.mono p2.1 p2.2, Grow.refl _ _⟩
        · exact ⟨_, hd, s2.new hT, ⟨T, row, rfl, .inl (.inl (s2.at.seen hT)), (hr.mono p2.1 p2.2).mono ((Grow.upd (al := al2) hT).msk _) (List.prefix_refl _)⟩, Grow.upd hT⟩
      obtain ⟨d, hd, s3, rd3, g3⟩ := item
      rw [drop_at hd] at q2
      have q2 : bt M2 t d r2 fun r' => ws m sb E r' M2 { nx := fun r' M' => fl (fun d r M k' => bt M t d r fun r' => ws m sb E r' M k') (ds.drop (i + 1)) r' M' (kn g fr O al σ H D), rt := (kn g fr O al σ H D).rt, bk := (kn g fr O al σ H D).nx, ct := fun r' M' => fl (fun d r M k' => bt M t d r fun r' => ws m sb E r' M k') (ds.drop (i + 1)) r' M' (kn g fr O al σ H D) } := q2
      rw [hK]
      refine tg_ok s3 rd3 q2 fun σ4 O4 r4 s4 q4 hO _ _ => ?_
      have p4 : Stp fr.B0 O al1 H1 O4 al2 H3 := (p2.trans g3.stp).trans (.anti fun b hb => hb.imp id fun ⟨i, hi⟩ => ⟨i, by
        rw [hO i] at hi
        split at hi
        · cases hi
        · exact hi⟩)
      exact ⟨O4, al2, r4, M2, s4, ws_mono sb q4 (Le.refl _) ⟨fun r' M' k σ' H' O' al' p s' => ⟨O', al', r', M', p4.trans p, s', k⟩, fun _ _ k => k, fun r' M' k σ' H' O' al' p s' => k σ' H' O' al' (g1.stp.trans (p4.trans p)) s', fun r' M' k σ' H' O' al' p s' => ⟨O', al', r', M', p4.trans p, s', k⟩⟩⟩
    · rintro σ2 H2 ⟨O2, al2, r2, M2, p2, s2, q2⟩
      rw [List.drop_length] at q2
      exact (show (kn g fr O al σ H D).nx r2 M2 from q2) σ2 H2 O2 al2 (g1.stp.trans p2) s2
/-! ### names stored at once -/
/-- an argument list, the flagged ones new lists -/
def FlagOk (g : GC) (al : List Addr) (Hm H : Hp) : List Bool → List PV.D → List V → List Addr → Prop
  | [], [], [], [] => True
  | false :: ts, d :: ds, v :: vs, ps => Rep g al Hm d v ∧ FlagOk g al Hm H ts ds vs ps
  | true :: ts, d :: ds, v :: vs, p :: ps => (∃ es us, d = .lst es ∧ v = .ref p ∧ H p = some (.lst us) ∧ Reps g al Hm es us) ∧ p ∉ ps ∧ FlagOk g al Hm H ts ds vs ps
  | _, _, _, _ => False
def rdlF (g : GC) (m : Sm) (fr : Fm) (E : Ex) (ts : List Bool) (x : PV.X) : TA := fun σ H Q => ∃ B O al r M, Sta g fr B O al σ H r M ∧ wl m x E r M fun ds M' => ∀ vs H' al' ps, Grow al H al' H' → Sta g fr (fun b => B b ∨ b ∈ ps) O al' σ H' r M' → (∀ p ∈ ps, H p = none) →
  FlagOk g al' (hp (hid (fun b => B b ∨ b ∈ ps) O) al' H') H' ts ds vs ps → Q vs H'
theorem ok_nilF : PA X [] (rdlF g m fr E [] .nil) := pa_nil.imp fun σ H Q ⟨B, O, al, r, M, s, q⟩ =>
  (show ∀ vs H' al' ps, Grow al H al' H' → Sta g fr (fun b => B b ∨ b ∈ ps) O al' σ H' r M → (∀ p ∈ ps, H p = none) → FlagOk g al' (hp (hid (fun b => B b ∨ b ∈ ps) O) al' H') H' [] [] vs ps → Q vs H' from q) [] H al [] (Grow.refl _ _)
    (by
      have e : (fun b => B b ∨ b ∈ ([] : List Addr)) = B := by funext b; simp
      rw [e]; exact s) (fun _ h => by simp at h) trivial
theorem same_ps {al2 : List Addr} {H2 : Hp} {ps : List Addr} (g2 : Grow al H al2 H2) (n2 : ∀ p ∈ ps, H p = none) : Same (hp (hid B O) al H) (hp (hid (fun b => B b ∨ b ∈ ps) O) al2 H2) := fun b u q => by
  obtain ⟨n, q1⟩ := of_msk q
  obtain ⟨n', q2⟩ := of_msk (g2.msk _ b u q)
  have nb : b ∉ ps := fun z => by rw [n2 b z] at q1; cases q1
  show msk _ _ b = some u
  rw [msk_of]
  · exact q2
  · rintro (((z | z) | z) | z)
    · exact n' (.inl (.inl z))
    · exact nb z
    · exact n' (.inl (.inr z))
    · exact n' (.inr z)
theorem ok_consF {es : List Expr} {ts : List Bool} {xr : PV.X} (ha : PE X a (rd g m fr E xa)) (hr : PA X es (rdlF g m fr E ts xr)) (hs : starEach (a :: es) X.env = (false, eval a X.env) :: starEach es X.env) : PA X (a :: es) (rdlF g m fr E (false :: ts) (.cons xa xr)) :=
  (pa_cons ha hr hs).imp fun σ H Q ⟨B, O, al, r, M, s, q⟩ => rd_of s q fun d M1 v H1 al1 q1 g1 s1 r1 =>
    ⟨B, O, al1, r, M1, s1, wl_mono xr q1 (Le.refl _) fun ds M2 k vs H2 al2 ps g2 s2 n2 f2 => k (v :: vs) H2 al2 ps (g1.trans g2) s2 (fun p hp => back_none s1.at.ms g1 (n2 p hp)) ⟨r1.mono (same_ps g2 n2) g2.pre, f2⟩⟩
theorem ok_consT {es : List Expr} {ts : List Bool} {xr : PV.X} (hx : ∀ E r M Q, wx m xa E r M Q → wx m xa E r M fun d M' => (∃ ds, d = .lst ds) ∧ Q d M') (ha : PE X a (rdF g m fr E xa)) (hr : PA X es (rdlF g m fr E ts xr)) (hs : starEach (a :: es) X.env = (false, eval a X.env) :: starEach es X.env) :
    PA X (a :: es) (rdlF g m fr E (true :: ts) (.cons xa xr)) :=
  (pa_cons ha hr hs).imp fun σ H Q ⟨B, O, al, r, M, s, q⟩ => ⟨B, O, al, r, M, s, wx_mono xa (hx _ _ _ _ q) (Le.refl _) fun d M1 ⟨⟨ds0, hd⟩, q1⟩ => by
    subst hd
    refine ⟨ds0, rfl, fun p us H1 al1 g1 m1 hn hv na nP rs => ?_⟩
    obtain ⟨s1, eB⟩ := s.of_F g1 m1 hn hv na nP
    rw [eB] at rs
    refine ⟨_, O, al1, r, M1, s1, wl_mono xr q1 (Le.refl _) fun ds M2 k vs H2 al2 ps g2 s2 n2 f2 => ?_⟩
    have eP : (fun b => B b ∨ b ∈ p :: ps) = fun b => (B b ∨ b = p) ∨ b ∈ ps := by
      funext b
      simp only [List.mem_cons, or_assoc]
    have np : p ∉ ps := fun z => by rw [n2 p z] at hv; cases hv
    refine k (.ref p :: vs) H2 al2 (p :: ps) (g1.trans g2) (by rw [eP]; exact s2) (fun b hb => ?_) ?_
    · rcases List.mem_cons.mp hb with rfl | hb
      · exact hn
      · cases e : H b with
        | none => rfl
        | some o =>
          by_cases ha : b ∈ al
          · have := s.at.ms.tracked ha
            have h3 := n2 b hb
            have h4 : b ∈ al1 := by obtain ⟨t, ht⟩ := g1.pre; rw [← ht]; exact List.mem_append_left _ ha
            have h5 := s1.at.ms.tracked h4
            rw [h3] at h5; cases h5
          · have h3 := g1.keep b o e ha
            rw [n2 b hb] at h3; cases h3
    · rw [eP]
      exact ⟨⟨ds0, us, rfl, rfl, g2.keep _ _ hv na, rs.mono (same_ps g2 n2) g2.pre⟩, np, f2⟩⟩
def setsV : List Nat → List V → L2.St → L2.St
  | i :: is, v :: vs, σ => setsV is vs (σ.set i (some v))
  | _, _, σ => σ
theorem store_F : ∀ (ts : List (Nat × Bool)) {ds : List PV.D} {vs : List V} {ps : List Addr} {O : Ow} {σ : L2.St} {r r' : Ro}, Sta g fr (fun b => B b ∨ b ∈ ps) O al σ H r M → (∀ b, fr.B0 b → B b) → (∀ p ∈ ps, ¬ B p ∧ fr.H0 p = none) →
    FlagOk g al (hp (hid (fun b => B b ∨ b ∈ ps) O) al H) H (ts.map (·.2)) ds vs ps → setp ts ds r = some r' →
    ∃ O', Sta g fr B O' al (setsV (ts.map (·.1)) vs σ) H r' M ∧ ∀ b, hid B O' b → hid (fun b => B b ∨ b ∈ ps) O b
  | [], ds, vs, ps, O, σ, r, r', s, hsub, hps, hf, hset => by
    cases ds <;> cases vs <;> cases ps <;> first | exact (show False from hf).elim | skip
    cases hset
    have e : (fun b => B b ∨ b ∈ ([] : List Addr)) = B := by funext b; simp
    rw [e] at s
    exact ⟨O, s, fun b hb => by rw [e]; exact hb⟩
  | (i, false) :: ts, ds, vs, ps, O, σ, r, r', s, hsub, hps, hf, hset => by
    cases ds with
    | nil => exact (show False from hf).elim
    | cons d ds =>
      cases vs with
      | nil => exact (show False from hf).elim
      | cons v vs =>
        obtain ⟨hr, hf⟩ := hf
        have hset : (if i < r.length then setp ts ds (r.set i (.val d)) else none) = some r' := hset
        by_cases hi : i < r.length
        · rw [if_pos hi] at hset
          have s1 := s.set hi hr
          have fl : ∀ {ts ds vs qs}, FlagOk g al (hp (hid (fun b => B b ∨ b ∈ ps) O) al H) H ts ds vs qs → FlagOk g al (hp (hid (fun b => B b ∨ b ∈ ps) (dropO O i)) al H) H ts ds vs qs := by
            intro ts
            induction ts with
            | nil => intro ds vs qs h; cases ds <;> cases vs <;> cases qs <;> first | exact (show False from h).elim | exact h
            | cons t ts ih =>
              intro ds vs qs h
              have sm : Same (hp (hid (fun b => B b ∨ b ∈ ps) O) al H) (hp (hid (fun b => B b ∨ b ∈ ps) (dropO O i)) al H) := hp_anti fun b hb => hid_drop hb
              cases t with
              | false =>
                cases ds <;> cases vs <;> first | exact (show False from h).elim | exact ⟨h.1.mono sm (List.prefix_refl _), ih h.2⟩
              | true =>
                cases ds <;> cases vs <;> cases qs <;> first | exact (show False from h).elim | skip
                obtain ⟨⟨es, us, e1, e2, e3, e4⟩, h2, h3⟩ := h
                exact ⟨⟨es, us, e1, e2, e3, e4.mono sm (List.prefix_refl _)⟩, h2, ih h3⟩
          obtain ⟨O', s2, hh⟩ := store_F ts s1 hsub hps (fl hf) hset
          exact ⟨O', s2, fun b hb => hid_drop (hh b hb)⟩
        · rw [if_neg hi] at hset; cases hset
  | (i, true) :: ts, ds, vs, ps, O, σ, r, r', s, hsub, hps, hf, hset => by
    cases ds with
    | nil => exact (show False from hf).elim
    | cons d ds =>
      cases vs with
      | nil => exact (show False from hf).elim
      | cons v vs =>
        cases ps with
        | nil => exact (show False from hf).elim
        | cons p ps =>
          obtain ⟨⟨es, us, rfl, rfl, hv, hr⟩, np, hf⟩ := hf
          have hset : (if i < r.length then setp ts ds (r.set i (.own es)) else none) = some r' := hset
          by_cases hi : i < r.length
          · rw [if_pos hi] at hset
            have eP : (fun b => B b ∨ b ∈ p :: ps) = fun b => (B b ∨ b ∈ ps) ∨ b = p := by
              funext b
              simp only [List.mem_cons]
              exact propext ⟨fun h => by
                rcases h with h | h | h
                · exact .inl (.inl h)
                · exact .inr h
                · exact .inl (.inr h), fun h => by
                rcases h with (h | h) | h
                · exact .inl h
                · exact .inr (.inr h)
                · exact .inr (.inl h)⟩
            rw [eP] at s hr hf
            have hpp := hps p (by simp)
            have s1 := s.own_put (B := fun b => B b ∨ b ∈ ps) (ps := fun _ => True) (fun b hb => .inl (hsub b hb)) hi hv (fun z => z.elim hpp.1 np) hpp.2 hr
            have hidle : ∀ b, hid (fun b => B b ∨ b ∈ ps) (putO O i p) b → hid (fun b => (B b ∨ b ∈ ps) ∨ b = p) O b := fun b hb => by
              rcases hb with hb | ⟨j, hj⟩
              · exact .inl (.inl hb)
              · rcases putO_el hj with ⟨_, h⟩ | ⟨_, h⟩
                · exact .inl (.inr h)
                · exact .inr ⟨j, h⟩
            have fl : ∀ {ts ds vs qs}, FlagOk g al (hp (hid (fun b => (B b ∨ b ∈ ps) ∨ b = p) O) al H) H ts ds vs qs → FlagOk g al (hp (hid (fun b => B b ∨ b ∈ ps) (putO O i p)) al H) H ts ds vs qs := by
              intro ts
              induction ts with
              | nil => intro ds vs qs h; cases ds <;> cases vs <;> cases qs <;> first | exact (show False from h).elim | exact h
              | cons t ts ih =>
                intro ds vs qs h
                have sm := hp_anti (al := al) (H := H) hidle
                cases t with
                | false =>
                  cases ds <;> cases vs <;> first | exact (show False from h).elim | exact ⟨h.1.mono sm (List.prefix_refl _), ih h.2⟩
                | true =>
                  cases ds <;> cases vs <;> cases qs <;> first | exact (show False from h).elim | skip
                  obtain ⟨⟨es, us, e1, e2, e3, e4⟩, h2, h3⟩ := h
                  exact ⟨⟨es, us, e1, e2, e3, e4.mono sm (List.prefix_refl _)⟩, h2, ih h3⟩
            obtain ⟨O', s2, hh⟩ := store_F ts s1 hsub (fun q hq => hps q (by simp [hq])) (fl hf) hset
            exact ⟨O', s2, fun b hb => by rw [eP]; exact hidle b (hh b hb)⟩
          · rw [if_neg hi] at hset; cases hset
theorem flag_len : ∀ {ts : List Bool} {ds : List PV.D} {vs : List V} {ps : List Addr} {Hm : Hp}, FlagOk g al Hm H ts ds vs ps → vs.length = ts.length
  | [], ds, vs, ps, Hm, h => by cases ds <;> cases vs <;> cases ps <;> first | exact (show False from h).elim | rfl
  | false :: ts, ds, vs, ps, Hm, h => by
    cases ds <;> cases vs <;> first | exact (show False from h).elim | skip
    simp [flag_len h.2]
  | true :: ts, ds, vs, ps, Hm, h => by
    cases ds <;> cases vs <;> cases ps <;> first | exact (show False from h).elim | skip
    simp [flag_len h.2.2]
/-- the stores of a tuple of names, whichever way the machine takes -/
theorem ok_par {es : List Expr} {ts : List (Nat × Bool)} {xr : PV.X} {Kk : Ends → L2.St → List V → Hp → Prop} (ha : PA X es (rdlF g m fr E (ts.map (·.2)) xr))
    (ps : ∀ {ta : TA}, PA X es ta → PS X st fun D σ H => ta σ H fun vs H1 => Kk D σ vs H1)
    (hT : ∀ D σ vs H1, vs.length = ts.length → D.nx (setsV (ts.map (·.1)) vs σ) H1 → (∀ T, H1 T = none → D.nx (setsV (ts.map (·.1)) vs σ) (upd H1 T (.tup vs))) → Kk D σ vs H1) : PS X st (rds g m fr E (.par ts xr)) :=
  (ps ha).imp fun D σ H ⟨O, al, r, M, s, q⟩ => ⟨fr.B0, O, al, r, M, s, wl_mono xr q (Le.refl _) fun ds M1 k vs H1 al1 ps g1 s1 n1 f1 => by
    obtain ⟨r', hr', k⟩ := opt_iff.mp k
    have hps : ∀ p ∈ ps, ¬ fr.B0 p ∧ fr.H0 p = none := fun p hp => by
      obtain ⟨h1, _, h3⟩ := s.fresh (n1 p hp)
      exact ⟨fun z => h3 (.inl z), h1⟩
    obtain ⟨O', s2, hh⟩ := store_F ts s1 (fun _ h => h) hps f1 hr'
    have p2 : Stp fr.B0 O al H O' al1 H1 := ⟨fun b u q => hp_anti hh b u (same_ps g1 n1 b u q), g1.pre⟩
    refine hT D σ vs H1 (by rw [flag_len f1, List.length_map]) (k _ H1 O' al1 p2 s2) fun T hT => ?_
    exact k _ _ O' al1 (p2.trans (Grow.upd hT).stp) (s2.new hT)⟩
/-- two names at once, swapped -/
theorem ok_par2 {i j : Nat} {x y : Str} {a b : Expr} {px py pt : Pos} {kt k2 pt2} {fi fj : Bool} {xr : PV.X} (hc : X.calm = true) (hN : X.N.Nodup) (hi : X.N[i]? = some x) (hj : X.N[j]? = some y) (hij : i ≠ j)
    (hx : X.env.scope.names.lookup x = some .local) (hy : X.env.scope.names.lookup y = some .local) (ha : PA X [a, b] (rdlF g m fr E [fi, fj] xr))
    (hw : swappedStores [.Tuple [.Name x px, .Name y py] kt pt] (.Tuple [a, b] k2 pt2) X.env = pure (some [x, y])) (hs : swapsWithSole [.Tuple [.Name x px, .Name y py] kt pt] (.Tuple [a, b] k2 pt2) pos.line X.env = pure false) :
    PS X (.Assign [.Tuple [.Name x px, .Name y py] kt pt] (.Tuple [a, b] k2 pt2) pos) (rds g m fr E (.par [(i, fi), (j, fj)] xr)) :=
  ok_par (ts := [(i, fi), (j, fj)]) (Kk := fun D σ vs H1 => ∃ v w, vs = [v, w] ∧ D.nx ((σ.set i (some v)).set j (some w)) H1) ha (fun ha => ps_par hc hN hi hj hij hx hy ha hw hs) fun D σ vs H1 hl h _ => by
    match vs, hl with
    | [v, w], _ => exact ⟨v, w, rfl, h⟩
/-- a tuple made and taken apart -/
theorem tgs_sets {D : Ends} : ∀ (is : List Nat) (vs : List V) (σ : L2.St) (H : Hp), vs.length = is.length → D.nx (setsV is vs σ) H → tgs is vs σ H D.nx
  | [], [], _, _, _, h => ⟨rfl, h⟩
  | i :: is, v :: vs, σ, H, hl, h => ⟨v, vs, rfl, tgs_sets is vs (σ.set i (some v)) H (by simpa using hl) h⟩
theorem ok_parN {es : List Expr} {ts : List (Nat × Bool)} {xr : PV.X} {tgE : Expr} {k : Nat} {tp : Pos} (hK : X.K = g.K) (ha : PA X es (rdlF g m fr E (ts.map (·.2)) xr)) (hg : PG X tgE (tg X.K (.tp (ts.map (·.1))))) (hl : ts.length ≤ 1000)
    (hs : swapsWithSole [tgE] (.Tuple es k tp) pos.line X.env = pure false) (hw : swappedStores [tgE] (.Tuple es k tp) X.env = pure none) (h1 : (assignEach [tgE] X.env).map (·.2) = [assign tgE X.env]) :
    PS X (.Assign [tgE] (.Tuple es k tp) pos) (rds g m fr E (.par ts xr)) :=
  ok_par (Kk := fun D σ vs H1 => vs.length ≤ sizeLine ∧ ∀ T, H1 T = none → tg X.K (.tp (ts.map fun z : Nat × Bool => z.1)) (.ref T) σ (upd H1 T (.tup vs)) D.nx) ha (fun ha => ps_asg (pe_tup ha) hg hs hw h1) fun D σ vs H1 hv _ h => by
    refine ⟨by rw [hv, sizeLine_eq]; omega, fun T hT => ⟨T, vs, rfl, .inl (.inl upd_same), by rw [hv, List.length_map], tgs_sets _ vs σ _ (by rw [hv, List.length_map]) (h T hT)⟩⟩
/-! ### raise -/
theorem ok_rais {n : Nat} {nm msg : Str} {j : Nat} {p1 p2 p3 : Pos} (hc : X.calm = true) (tk : Takes X fun cls d _ H => XkOf g fr E cls d H) (hk : m.kept n = false)
    (pm : PMk X (.Call (.Name nm p1) [.Constant (.str msg) j p2] [] p3) fun _ H Q => Q (.ref (g.ec n)) none H) : PS X (.Raise (some (.Call (.Name nm p1) [.Constant (.str msg) j p2] [] p3)) none pos) (rds g m fr E (.rais n (.cons (.str msg) .nil))) :=
  (ps_raise hc tk pm).imp fun D σ H ⟨O, al, r, M, s, q⟩ => by
    have q : E ⟨n, if m.kept n = true then [.str msg] else []⟩ M := q
    rw [hk, if_neg Bool.false_ne_true] at q
    exact ⟨⟨n, []⟩, M, al, q, s.env.gr, s.env.ms.weak fun b hb => .inl hb, rfl, [], rfl, .inl ⟨rfl, rfl⟩⟩
end
end PV

set_option Elab.async false
set_option linter.all false
set_option maxRecDepth 100000
set_option maxHeartbeats 4000000
/-! PV part 10: isinstance, keywords, a local name called, slices turned round. -/
namespace PV
open PySem PySem.Spec PyProof.Rows L2

/-! ### isinstance -/
def tyNm : Ty → String
  | .int => "int"
  | .bool => "bool"
  | .str => "str"
  | .tup => "tuple"
  | .lst => "list"
  | .dct => "dict"
  | .own _ => ""
def tyStr : D → Option String
  | .non => some "NoneType"
  | .bl _ => some "bool"
  | .int _ => some "int"
  | .str _ => some "str"
  | .tup _ => some "tuple"
  | .lst _ => some "list"
  | .scr _ => some "list"
  | _ => none
def tyT (s : String) (t : Ty) : Bool := match s, t with
  | "bool", .bool => true
  | "bool", .int => true
  | "int", .int => true
  | "str", .str => true
  | "tuple", .tup => true
  | "list", .lst => true
  | _, _ => false
theorem kit_tab : ∀ s ∈ ["NoneType", "bool", "int", "str", "tuple", "list"], ∀ t ∈ [Ty.int, .bool, .str, .tup, .lst, .dct], kitB s (tyNm t) = some (tyT s t) := by decide +kernel
/-- an exception held as a value -/
def ExV (C a : Addr) (d : Option Addr) : HO := .ext fun h => ∃ (oe : Obj) (vs : Array Value), h.get? a = some oe ∧ Zc (.ref C) d oe ∧ oe.data = .fields vs
section
variable {g : GC} {m : Sm} {fr : Fm} {E : Ex} {X : Cx} {a b c e : Expr} {xa xb xc x : PV.X} {pos tpos : Pos} {P : Addr → Prop} {B : Addr → Prop} {O : Ow} {al : List Addr} {σ : L2.St} {H : Hp} {r : Ro} {M : Ms} {d : PV.D} {v : V}
theorem tyx_of {s : String} (hr : Rep g al (hp P al H) d v) (hs : tyStr d = some s) : TyX g.K H v (.type s) := by
  cases d <;> first | (cases hs; done) | skip
  · cases hs; cases (show v = _ from hr); exact .base .non
  · cases hs; cases (show v = _ from hr); exact .base (.bl _)
  · cases hs; cases (show v = _ from hr); exact .base (.int _)
  · cases hs; cases (show v = _ from hr); exact .base (.str _)
  · cases hs
    obtain ⟨a, vs, rfl, h2, h3⟩ := hr
    rcases h2 with (h2 | ⟨o, h2⟩) | ⟨o, its, n, h2, hc, _⟩
    · exact .base (.tup (hp_same _ _ h2))
    · exact .fTuple (hp_same _ _ h2)
    · exact .kTuple h2 hc
  · cases hs
    obtain ⟨a, vs, rfl, h2, h3⟩ := hr
    exact .base (.lst (hp_same _ _ h2))
  · cases hs
    obtain ⟨a, rfl, h2⟩ := hr
    rcases h2 with (h2 | ⟨o, h2⟩) | ⟨o, its, n, h2, hc, _⟩
    · exact .base (.lst (hp_same _ _ h2))
    · exact .base (.frz (hp_same _ _ h2))
    · exact .kList h2 hc
theorem isTy_tab {cs : List Ty} (hk : isKn m d cs = true) (he : ∀ k fs, d ≠ .exc k fs) : ∃ s, tyStr d = some s ∧ s ∈ ["NoneType", "bool", "int", "str", "tuple", "list"] ∧ ∀ c ∈ cs, c ∈ [Ty.int, .bool, .str, .tup, .lst, .dct] ∧ tyT s c = isTy m d c := by
  have key : ∀ {c : Ty}, (match c with
      | .own _ => false
      | _ => true) = true → c ∈ [Ty.int, .bool, .str, .tup, .lst, .dct] := fun {c} h => by cases c <;> first | (simp; done) | exact absurd h Bool.false_ne_true
  cases d <;> first | (cases hk; done) | exact absurd rfl (he _ _) | skip
  all_goals
    refine ⟨_, rfl, by simp, fun c hc => ?_⟩
    have h1 := List.all_eq_true.mp hk c hc
    refine ⟨key h1, ?_⟩
    cases c <;> first | rfl | cases h1
theorem kitAny_tab {s : String} : ∀ {cs : List Ty}, s ∈ ["NoneType", "bool", "int", "str", "tuple", "list"] → (∀ c ∈ cs, c ∈ [Ty.int, .bool, .str, .tup, .lst, .dct] ∧ tyT s c = isTy m d c) → PySem.W.kitAny g.K (.type s) (cs.map fun c => .type (tyNm c)) = some (cs.any (isTy m d))
  | [], _, _ => rfl
  | c :: cs, hs, h => by
    obtain ⟨h1, h2⟩ := h c (by simp)
    rw [List.map_cons, List.any_cons, ← h2]
    refine kitAny_cons (kit_ty (kit_tab s hs c h1)) (fun e => ?_) (fun e => by rw [e]; rfl)
    rw [e, Bool.false_or]
    exact kitAny_tab hs fun c hc => h c (by simp [hc])
/-- isinstance(x, T), T of the built-in ones -/
theorem ok_isi1 {t : Ty} {p : Pos} {tE : Expr} (hK : X.K = g.K) (hT : PE X tE (tC (.ty (tyNm t)))) (hto : ∀ k, t ≠ .own k) (pe : ∀ {ta : TA}, PA X [a, tE] ta → PE X e (tCB (rIsi X.K) ta)) (hs : starEach [a, tE] X.env = (false, eval a X.env) :: starEach [tE] X.env) (hs2 : starEach [tE] X.env = (false, eval tE X.env) :: starEach [] X.env)
    (ha : PE X a (rd g m fr E xa)) : PE X e (rd g m fr E (.isi [t] xa)) :=
  (pe (pa_cons ha (pa_cons hT pa_nil hs2) hs)).imp fun σ H Q ⟨B, O, al, r, M, s, q⟩ => rd_of s q fun d M1 v H1 al1 q1 g1 s1 r1 => by
    obtain ⟨hk, q1⟩ := q1
    have he : ∀ k fs, d ≠ .exc k fs := fun k fs z => by
      subst z
      have h2 : (decide (k < m.ncl) && fs.isEmpty && [t].all fun c => match c with
        | .own j => decide (j < m.ncl)
        | _ => false) = true := hk
      cases t <;> simp at h2
      exact hto _ rfl
    obtain ⟨s, hs, hm, ht⟩ := isTy_tab hk he
    obtain ⟨h1, h2⟩ := ht t (by simp)
    rw [hK]
    refine ⟨v, .ty (tyNm t), .type s, .type (tyNm t), isTy m d t, rfl, .ty _, tyx_of r1 hs, by rw [← h2]; exact kit_ty (kit_tab s hm t h1), ?_⟩
    have e : [t].any (isTy m d) = isTy m d t := by simp
    rw [e] at q1
    exact q1 _ H1 al1 g1 s1.at.ms rfl
theorem clsTy : ∀ (cs : List Ty), Paired ClsV (cs.map fun c => V.ty (tyNm c)) (cs.map fun c => Value.type (tyNm c))
  | [] => .nil
  | c :: cs => .cons (.ty _) (clsTy cs)
/-- isinstance(x, (T, U)) -/
theorem ok_isiN {cs : List Ty} {tE : Expr} {tt : TA} {es : List Expr} {kk : Nat} {p : Pos} (hK : X.K = g.K) (hcs : cs.length ≤ 100) (hto : ∃ t ∈ cs, ∀ k, t ≠ .own k) (hT : PA X es fun σ H Q => Q (cs.map fun c => V.ty (tyNm c)) H) (pe : ∀ {ta : TA}, PA X [a, .Tuple es kk p] ta → PE X e (tCB (rIsiT X.K) ta))
    (hs : starEach [a, .Tuple es kk p] X.env = (false, eval a X.env) :: starEach [.Tuple es kk p] X.env) (hs2 : starEach [.Tuple es kk p] X.env = (false, eval (.Tuple es kk p) X.env) :: starEach [] X.env)
    (ha : PE X a (rd g m fr E xa)) : PE X e (rd g m fr E (.isi cs xa)) :=
  (pe (pa_cons ha (pa_cons (pe_tup hT) pa_nil hs2) hs)).imp fun σ H Q ⟨B, O, al, r, M, s, q⟩ => rd_of s q fun d M1 v H1 al1 q1 g1 s1 r1 => by
    obtain ⟨hk, q1⟩ := q1
    have he : ∀ k fs, d ≠ .exc k fs := fun k fs z => by
      subst z
      have h2 : (decide (k < m.ncl) && fs.isEmpty && cs.all fun c => match c with
        | .own j => decide (j < m.ncl)
        | _ => false) = true := hk
      obtain ⟨t, ht, hn⟩ := hto
      rw [Bool.and_eq_true] at h2
      have h3 := List.all_eq_true.mp h2.2 t ht
      cases t <;> first | cases h3 | exact hn _ rfl
    obtain ⟨s, hs, hm, ht⟩ := isTy_tab hk he
    refine ⟨by rw [List.length_map, sizeLine_eq]; omega, fun p hn => ?_⟩
    rw [hK]
    have gr := Grow.upd (al := al1) (o := .tup (cs.map fun c => V.ty (tyNm c))) hn
    have r2 : Rep g al1 (hp (hid B O) al1 (upd H1 p (.tup (cs.map fun c => V.ty (tyNm c))))) d v := r1.mono (gr.msk _) (List.prefix_refl _)
    refine ⟨v, p, _, .type s, _, _, rfl, upd_same, clsTy cs, tyx_of r2 hs, kitAny_tab hm ht, ?_⟩
    exact q1 _ _ al1 (g1.trans gr) (s1.new hn).at.ms rfl
/-- isinstance(error, C), both own -/
def rIsV (K : PySem.W.Frag) : List V → Hp → VK → Prop := fun xs H Q => ∃ (a C D : Addr) (b : Bool), xs = [.ref a, .ref D] ∧ H a = some (ExV C a none) ∧ ExcC K C ∧ PySem.W.kitOne K (.ref C) (.ref D) = some b ∧ Q (.bl b) H
theorem call_isV {X : Cx} : CallR X (.builtin "isinstance") (rIsV X.K) := by
  intro pins s σ H xs us Q I r h
  obtain ⟨a, C, D, b, rfl, hH, CC, e, q⟩ := h
  obtain ⟨u1, u2, rfl, r1, r2⟩ := vals2 r
  cases (show u1 = Value.ref a from r1)
  cases (show u2 = Value.ref D from r2)
  obtain ⟨⟨oe, vs, hget, hz, hv⟩, _, _⟩ := I.hok a _ hH
  have J : PySem.W.InstAt s.heap a oe C none := by
    obtain ⟨oc, od, oda, osl⟩ := oe
    obtain ⟨h1, h2⟩ := hz
    dsimp only at h1 h2 hv
    subst h1 h2 hv
    exact ⟨hget, rfl, rfl, trivial⟩
  exact PySem.W.kia_one (PySem.W.handS_kitx_exc CC.hg CC.hk CC.hs CC.hd CC.ha CC.hn CC.ht CC.hm) I.kIn J e (fun z => nomatch z) fun tk => ⟨.bl b, H, I.kept (t' := tk) fun _ _ z => z, rfl, q⟩
theorem ok_isiE {j : Nat} {tE : Expr} (hK : X.K = g.K) (hhx : ∀ k a d, g.hx k a d = ExV (g.ec k) a d) (hC : ∀ k, k < m.ncl → ExcC g.K (g.ec k)) (hkit : ∀ k, k < m.ncl → PySem.W.kitOne g.K (.ref (g.ec k)) (.ref (g.ec j)) = some (m.sub k j)) (hT : PE X tE (tC (.ref (g.ec j))))
    (pe : ∀ {ta : TA}, PA X [a, tE] ta → PE X e (tCB (rIsV X.K) ta)) (hs : starEach [a, tE] X.env = (false, eval a X.env) :: starEach [tE] X.env) (hs2 : starEach [tE] X.env = (false, eval tE X.env) :: starEach [] X.env)
    (ha : PE X a (rd g m fr E xa)) : PE X e (rd g m fr E (.isi [.own j] xa)) :=
  (pe (pa_cons ha (pa_cons hT pa_nil hs2) hs)).imp fun σ H Q ⟨B, O, al, r, M, s, q⟩ => rd_of s q fun d M1 v H1 al1 q1 g1 s1 r1 => by
    obtain ⟨hk, q1⟩ := q1
    cases d <;> first | (simp [isKn] at hk; done) | skip
    rename_i k fs
    have hk : (decide (k < m.ncl) && fs.isEmpty && decide (j < m.ncl) && true) = true := by simpa [isKn, Bool.and_assoc] using hk
    simp only [Bool.and_eq_true, decide_eq_true_eq, List.isEmpty_iff] at hk
    obtain ⟨⟨⟨h1, rfl⟩, h2⟩, _⟩ := hk
    obtain ⟨a, dd, vs, rfl, h3, h4, h5⟩ := r1
    cases (show vs = [] from h4)
    rcases h5 with ⟨rfl, _⟩ | ⟨h6, _⟩
    · have h3 := hp_same _ _ h3
      rw [hhx] at h3
      rw [hK]
      refine ⟨a, g.ec k, g.ec j, m.sub k j, rfl, h3, hC k h1, hkit k h1, ?_⟩
      have e : [Ty.own j].any (isTy m (.exc k [])) = m.sub k j := by simp [isTy]
      rw [e] at q1
      exact q1 _ H1 al1 g1 s1.at.ms rfl
    · exact absurd rfl h6
end
end PV

set_option Elab.async false
set_option linter.all false
set_option maxRecDepth 100000
set_option maxHeartbeats 4000000
/-! PV part 11: one record of what a frame gives, one short rule a construct. -/
namespace PV
open PySem PySem.Spec PyProof.Rows L2

/-- the built-in names stand free -/
structure Blt (mg : Str → Option Value) : Prop where
  abs : mg "abs" = none
  all : mg "all" = none
  any : mg "any" = none
  bool : mg "bool" = none
  dict : mg "dict" = none
  enumerate : mg "enumerate" = none
  int : mg "int" = none
  isinstance : mg "isinstance" = none
  len : mg "len" = none
  list : mg "list" = none
  max : mg "max" = none
  min : mg "min" = none
  range : mg "range" = none
  sorted : mg "sorted" = none
  str : mg "str" = none
  sum : mg "sum" = none
  tuple : mg "tuple" = none
  zip : mg "zip" = none

structure Cok (g : GC) (P : Program) (w : World) (mg : Str → Option Value) (base : Heap) (k : Nat) (fr : Fm) (E : Ex) (N : List Str) (sc : Scope) (fc : Bool) (X : Cx) : Prop where
  nd : N.Nodup
  kind : sc.kind = .function
  eP : X.prog = P
  eW : X.w = w
  K : X.K = g.K
  eM : X.mg = mg
  eB : X.base = base
  eN : X.N = N
  eS : X.env.scope = sc
  room : Room k X.A
  calm : X.calm = true
  tk : Takes X fun cls d _ H => XkOf g fr E cls d H
  px : Passes (L2.CX X.prog X.w) X (XkOf g fr E)
  po : fc = true → PassesOwn (model X.prog X.w) X.A X.env X.xe
  fn : fc = true → ∀ x, X.fn x = true
def visB (sc : Scope) (x : Str) : Bool := match sc.names.lookup x with
  | some .local => true
  | some .cell => true
  | some .free => true
  | _ => false
def nmB (N : List Str) (sc : Scope) (i : Nat) (x : Str) : Bool := decide (N[i]? = some x) && (visB sc x && (!(x == ("__debug__" : Str)) && !(x == ("__classdict__" : Str))))
def locB (N : List Str) (sc : Scope) (fc : Bool) (i : Nat) (x : Str) : Bool := decide (N[i]? = some x) && match sc.names.lookup x with
  | some .local => true
  | some .cell => fc
  | _ => false
def glB (sc : Scope) (x : Str) : Bool := (match sc.names.lookup x with
  | some .globalImplicit => true
  | _ => false) && !(x == ("__debug__" : Str))
theorem visB_ok {sc : Scope} {x : Str} (h : visB sc x = true) : sc.names.lookup x = some .local ∨ sc.names.lookup x = some .cell ∨ sc.names.lookup x = some .free := by
  unfold visB at h
  split at h <;> first | exact .inl (by assumption) | exact .inr (.inl (by assumption)) | exact .inr (.inr (by assumption)) | cases h
/-- a def of the program: its promise, where it stands -/
structure Fct (g : GC) (m : Sm) (P : Program) (w : World) (mg : Str → Option Value) (base : Heap) (lev j : Nat) (nm : Str) (st : Stmt) (ps : List Str) : Prop where
  ex : ∃ fd, FnOk P w g.K mg base (L2.CX P w) lev (g.fa j) fd ps (spOf g ps.length (m.fn j)) ∧ FunD g.K nm nm (defArgs st) (defBody st) (defScope st) [] [] (g.fa j) fd ∧ Binds g.K fd ps []
  mgf : mg nm = some (.ref (g.fa j))
theorem Fct.kp {g : GC} {m : Sm} {P : Program} {w : World} {mg : Str → Option Value} {base : Heap} {lev j : Nat} {nm : Str} {st : Stmt} {ps : List Str} (F : Fct g m P w mg base lev j nm st ps) : PySem.W.keepIn g.K (.ref (g.fa j)) = true := F.ex.choose_spec.2.1.kp
/-- how many a list of expressions has -/
def xlen : X → Option Nat
  | .nil => some 0
  | .cons _ r => (xlen r).map (· + 1)
  | _ => none
theorem wl_len {m : Sm} : ∀ (x : PV.X) {n : Nat} {E : Ex} {r : Ro} {M : Ms} {Q : List D → Ms → Prop}, xlen x = some n → wl m x E r M Q → wl m x E r M fun ds M' => ds.length = n ∧ Q ds M'
  | .nil, n, E, r, M, Q, h, q => by
    cases h; exact ⟨rfl, q⟩
  | .cons a x, n, E, r, M, Q, h, q => by
    have h : (xlen x).map (· + 1) = some n := h
    cases e : xlen x with
    | none => rw [e] at h; cases h
    | some k =>
      rw [e] at h
      cases h
      exact wx_mono a q (Le.refl _) fun d M1 q1 => wl_mono x (wl_len x e q1) (Le.refl _) fun ds M2 q2 => ⟨by simp [q2.1], q2.2⟩
  | .v _, _, _, _, _, _, h, _ | .pk _, _, _, _, _, _, h, _ | .non, _, _, _, _, _, h, _ | .bl _, _, _, _, _, _, h, _ | .int _, _, _, _, _, _, h, _ | .str _, _, _, _, _, _, h, _
  | .glo _, _, _, _, _, _, h, _ | .fnv _, _, _, _, _, _, h, _ | .tup _, _, _, _, _, _, h, _ | .lst _, _, _, _, _, _, h, _ | .p1 _ _, _, _, _, _, _, h, _ | .p2 _ _ _, _, _, _, _, _, h, _
  | .chn _ _ _ _ _, _, _, _, _, _, h, _ | .isN _ _, _, _, _, _, _, h, _ | .isB _ _ _, _, _, _, _, _, h, _ | .isi _ _, _, _, _, _, _, h, _ | .nt _, _, _, _, _, _, h, _ | .an _ _, _, _, _, _, _, h, _
  | .or _ _, _, _, _, _, _, h, _ | .ife _ _ _, _, _, _, _, _, h, _ | .sl _ _ _, _, _, _, _, _, h, _ | .call _ _, _, _, _, _, _, h, _ | .callk _ _ _, _, _, _, _, _, h, _ | .callv _ _, _, _, _, _, _, h, _
  | .comp _ _ _ _ _, _, _, _, _, _, h, _ | .iseq _, _, _, _, _, _, h, _ | .irng _, _, _, _, _, _, h, _ | .irng2 _ _, _, _, _, _, _, h, _ | .izip _ _, _, _, _, _, _, h, _ | .ienum _, _, _, _, _, _, h, _
  | .cau _ _, _, _, _, _, _, h, _ | .dget _ _, _, _, _, _, _, h, _ | .pop0 _ _, _, _, _, _, _, h, _ | .tne _ _, _, _, _, _, _, h, _ | .mkd _ _, _, _, _, _, _, h, _ | .bad, _, _, _, _, _, h, _ => by cases h
section
variable {g : GC} {m : Sm} {P : Program} {w : World} {mg : Str → Option Value} {base : Heap} {k : Nat} {fr : Fm} {E : Ex} {N : List Str} {sc : Scope} {fc : Bool} {X : Cx}
variable {a b c e : Expr} {xa xb xc x : PV.X} {sa sb : S} {st : Stmt} {pos p1 p2 p3 : Pos} {nm : Str}
theorem Cok.gl (C : Cok g P w mg base k fr E N sc fc X) (h : glB sc nm = true) : Gl X nm := by
  unfold glB at h
  rw [Bool.and_eq_true] at h
  show X.env.scope.names.lookup nm = _
  rw [C.eS]
  have h := h.1
  split at h
  · assumption
  · cases h
theorem glB_d (h : glB sc nm = true) : (nm == ("__debug__" : Str)) = false := by
  unfold glB at h
  rw [Bool.and_eq_true, Bool.not_eq_true'] at h
  exact h.2
theorem Cok.un (C : Cok g P w mg base k fr E N sc fc X) : X.A.units + 64 < cLine := by have := C.room.un; omega
theorem Cok.un1 (C : Cok g P w mg base k fr E N sc fc X) : X.A.units + 1 < cLine := by have := C.room.un; omega
theorem Cok.mgn (C : Cok g P w mg base k fr E N sc fc X) {x : Str} {o : Option Value} (h : mg x = o) : X.mg x = o := by rw [C.eM]; exact h
theorem Cok.var (C : Cok g P w mg base k fr E N sc fc X) {i : Nat} (h : nmB N sc i nm = true) : PE X (.Name nm pos) (tVar i) := by
  unfold nmB at h
  simp only [Bool.and_eq_true, decide_eq_true_eq, Bool.not_eq_true'] at h
  obtain ⟨h1, h2, h3, h4⟩ := h
  refine pe_var (by rw [C.eN]; exact h1) ?_ h3 h4
  show X.env.scope.names.lookup nm = _ ∨ X.env.scope.names.lookup nm = _ ∨ X.env.scope.names.lookup nm = _
  rw [C.eS]
  exact visB_ok h2
theorem Cok.tgt (C : Cok g P w mg base k fr E N sc fc X) {i : Nat} (h : locB N sc fc i nm = true) : N[i]? = some nm ∧ Loc X.env.scope nm ∧ (X.fn nm = true ∨ X.env.scope.names.lookup nm = some .local) := by
  unfold locB at h
  rw [Bool.and_eq_true, decide_eq_true_eq] at h
  obtain ⟨h1, h2⟩ := h
  refine ⟨h1, ?_⟩
  rw [C.eS]
  split at h2
  · exact ⟨.inl (by assumption), .inr (by assumption)⟩
  · exact ⟨.inr (by assumption), .inl (C.fn h2 nm)⟩
  · cases h2
/-! ### expressions -/
theorem n_v (C : Cok g P w mg base k fr E N sc fc X) {i : Nat} (h : nmB N sc i nm = true) : PE X (.Name nm pos) (rd g m fr E (.v i)) := ok_v (C.var h)
theorem n_pk (C : Cok g P w mg base k fr E N sc fc X) {i : Nat} (h : nmB N sc i nm = true) : PE X (.Name nm pos) (rdo g m fr E (.pk i)) := ok_pk (C.var h)
/-- an operand -/
theorem n_o (hx : (match x with
  | .pk _ => false
  | _ => true) = true) (h : PE X e (rd g m fr E x)) : PE X e (rdo g m fr E x) := opd_rd h fun i z => by subst z; cases hx
theorem n_int {i : Int} {j : Nat} : PE X (.Constant (.int i) j pos) (rd g m fr E (.int i)) := ok_c pe_int (fun _ _ _ _ h => h) fun _ _ => rfl
theorem n_str {s : Str} {j : Nat} : PE X (.Constant (.str s) j pos) (rd g m fr E (.str s)) := ok_c pe_str (fun _ _ _ _ h => h) fun _ _ => rfl
theorem n_bl {v : Bool} {j : Nat} : PE X (.Constant (.bool v) j pos) (rd g m fr E (.bl v)) := ok_c pe_bl (fun _ _ _ _ h => h) fun _ _ => rfl
theorem n_non {j : Nat} : PE X (.Constant .none j pos) (rd g m fr E .non) := ok_c pe_non (fun _ _ _ _ h => h) fun _ _ => rfl
/-- a constant of the module -/
def GloF (g : GC) (m : Sm) (mg : Str → Option Value) (k : Nat) (nm : Str) : Prop := ∃ v u, mg nm = some u ∧ RelV v u ∧ ∀ al H, Rep g al H (m.glo k) v
theorem n_glo (C : Cok g P w mg base k fr E N sc fc X) {i : Nat} (F : GloF g m mg i nm) (h : glB sc nm = true) : PE X (.Name nm pos) (rd g m fr E (.glo i)) := by
  obtain ⟨v, u, h1, h2, h3⟩ := F
  exact ok_c (pe_glob (C.gl h) (C.mgn h1) h2 (glB_d h)) (fun _ _ _ _ h => h) h3
theorem n_fnv (C : Cok g P w mg base k fr E N sc fc X) {lev j : Nat} {st : Stmt} {ps : List Str} (F : Fct g m P w mg base lev j nm st ps) (h : glB sc nm = true) : PE X (.Name nm pos) (rd g m fr E (.fnv j)) :=
  ok_c (pe_glob (v := .ref (g.fa j)) (C.gl h) (C.mgn F.mgf) rfl (glB_d h)) (fun _ _ _ _ h => h) fun _ _ => rfl
theorem n_tup {es : List Expr} {j : Nat} (h : PA X es (rdl g m fr E x)) : PE X (.Tuple es j pos) (rd g m fr E (.tup x)) := ok_tup h
theorem n_lst {es : List Expr} (h : PA X es (rdl g m fr E x)) : PE X (.List es pos) (rd g m fr E (.lst x)) := ok_lst h
theorem un_negP : UnR X (unaryOp .USub) (fun v H Q => r1 X.K .neg [v] H Q) := fun pins s σ H x v Q I r h => by
  obtain ⟨i, e, q⟩ := h
  cases e
  exact un_neg pins s σ H _ v Q I r ⟨i, rfl, q⟩
theorem n_neg (C : Cok g P w mg base k fr E N sc fc X) (ha : PE X a (rdo g m fr E xa)) : PE X (.UnaryOp .USub a pos) (rd g m fr E (.p1 .neg xa)) :=
  ok_1 (p := .neg) (by intro h; cases h) (fun {ta} ha => pe_un un_negP ha) C.K ha
theorem n_bin (C : Cok g P w mg base k fr E N sc fc X) {p : P2} {o : Operator} (h : binop p = some o) (ha : PE X a (rdo g m fr E xa)) (hb : PE X b (rdo g m fr E xb)) : PE X (.BinOp a o b pos) (rd g m fr E (.p2 p xa xb)) := ok_bin C.K h ha hb
theorem n_cmp (C : Cok g P w mg base k fr E N sc fc X) {p : P2} {o : CmpOp} (h : cmpop p = some o) (hm : behindInMarks o b = false) (ha : PE X a (rdo g m fr E xa)) (hb : PE X b (rdo g m fr E xb)) : PE X (.Compare a [o] [b] pos) (rd g m fr E (.p2 p xa xb)) := ok_cmp C.K C.un h hm ha hb
theorem n_chn (C : Cok g P w mg base k fr E N sc fc X) {p q : P2} {o o' : CmpOp} (h : cmpop p = some o) (h' : cmpop q = some o') (hl : lastMarks [o, o'] [b, c] = false) (ha : PE X a (rdo g m fr E xa)) (hb : PE X b (rdo g m fr E xb)) (hc : PE X c (rdo g m fr E xc)) :
    PE X (.Compare a [o, o'] [b, c] pos) (rd g m fr E (.chn p q xa xb xc)) := ok_chn C.K C.un h h' (fun ha hb hc => pe_chain (r2_cmp C.un h) (r2_cmp C.un h') ha hb hc hl) ha hb hc
theorem n_ix (C : Cok g P w mg base k fr E N sc fc X) (hs : PlainIx b) (ha : PE X a (rdo g m fr E xa)) (hb : PE X b (rdo g m fr E xb)) : PE X (.Subscript a b pos) (rd g m fr E (.p2 .ix xa xb)) := ok_ix C.K hs ha hb
theorem n_isN {j : Nat} (ha : PE X a (rd g m fr E xa)) : PE X (.Compare a [.Is] [.Constant .none j p1] pos) (rd g m fr E (.isN false xa)) := ok_isN rfl ha
theorem n_ntN {j : Nat} (ha : PE X a (rd g m fr E xa)) : PE X (.Compare a [.IsNot] [.Constant .none j p1] pos) (rd g m fr E (.isN true xa)) := ok_isN rfl ha
theorem n_isB {v : Bool} {j : Nat} (ha : PE X a (rd g m fr E xa)) : PE X (.Compare a [.Is] [.Constant (.bool v) j p1] pos) (rd g m fr E (.isB false v xa)) := ok_isB rfl ha
theorem n_nt (ha : PE X a (rd g m fr E xa)) : PE X (.UnaryOp .Not a pos) (rd g m fr E (.nt xa)) := ok_nt ha
theorem n_an {rest : List Expr} (ha : PE X a (rd g m fr E xa)) (hb : PE X (.BoolOp .And (b :: rest) pos) (rd g m fr E xb)) : PE X (.BoolOp .And (a :: b :: rest) pos) (rd g m fr E (.an xa xb)) := ok_an ha hb
theorem n_or {rest : List Expr} (ha : PE X a (rd g m fr E xa)) (hb : PE X (.BoolOp .Or (b :: rest) pos) (rd g m fr E xb)) : PE X (.BoolOp .Or (a :: b :: rest) pos) (rd g m fr E (.or xa xb)) := ok_or ha hb
theorem n_an1 (ha : PE X a (rd g m fr E xa)) : PE X (.BoolOp .And [a] pos) (rd g m fr E xa) := pe_one ha
theorem n_or1 (ha : PE X a (rd g m fr E xa)) : PE X (.BoolOp .Or [a] pos) (rd g m fr E xa) := pe_one ha
theorem n_ife (hc : PT X c (rdt g m fr E xc)) (ha : PE X a (rd g m fr E xa)) (hb : PE X b (rd g m fr E xb)) : PE X (.IfExp c a b pos) (rd g m fr E (.ife xc xa xb)) := ok_ife hc ha hb
theorem n_sl (C : Cok g P w mg base k fr E N sc fc X) {lo hi : Option Expr} {xl xh : PV.X} (ha : PE X a (rdo g m fr E xa)) (hl : PO X lo (rdp g m fr E xl)) (hh : PO X hi (rdp g m fr E xh)) : PE X (.Subscript a (.Slice lo hi none p2) pos) (rd g m fr E (.sl xa xl xh)) := ok_sl C.K ha hl hh
theorem n_pno : PO X none (rdp g m fr E .nil) := ok_pnone
theorem n_pso (hx : (match xa with
  | .nil => false
  | _ => true) = true) (ha : PE X a (rd g m fr E xa)) : PO X (some a) (rdp g m fr E xa) := ok_psome ha fun z => by subst z; cases hx
theorem n_nil : PA X [] (rdl g m fr E .nil) := ok_nil
theorem n_cons {es : List Expr} (hs : starEach (a :: es) X.env = (false, eval a X.env) :: starEach es X.env) (ha : PE X a (rd g m fr E xa)) (hr : PA X es (rdl g m fr E x)) : PA X (a :: es) (rdl g m fr E (.cons xa x)) := ok_cons ha hr hs
/-! ### calls -/
theorem n_call (C : Cok g P w mg base k fr E N sc fc X) {lev j : Nat} {st : Stmt} {ps : List Str} {es : List Expr} (F : Fct g m P w mg base lev j nm st ps) (hl : (glB sc nm && decide (lev ≤ k)) = true) (hn : xlen x = some ps.length)
    (he : starEach (a :: es) X.env = (false, eval a X.env) :: starEach es X.env) (hpl : (backTo pos (starEach es X.env)).any (·.1) = false) (ha : PA X (a :: es) (rdl g m fr E x)) : PE X (.Call (.Name nm p1) (a :: es) [] pos) (rd g m fr E (.call j x)) := by
  rw [Bool.and_eq_true, decide_eq_true_eq] at hl
  obtain ⟨fd, F1, F2, F3⟩ := F.ex
  have e1 := C.eP
  have e2 := C.eW
  have e3 := C.eM
  have e4 := C.eB
  have e5 := C.K
  subst e1 e2 e3 e4
  exact ok_call (n := ps.length) rfl (e5 ▸ F1) (C.room.mono hl.2) (C.gl hl.1) F.mgf (e5 ▸ F.kp) (e5 ▸ F3) C.px (fun _ M r E Q h => wl_len x hn h) ha (glB_d hl.1) he hpl
theorem boot_len1 : bootBuiltins "len" = some (.builtin "len") := by decide +kernel
theorem boot_abs1 : bootBuiltins "abs" = some (.builtin "abs") := by decide +kernel
theorem boot_sum1 : bootBuiltins "sum" = some (.builtin "sum") := by decide +kernel
theorem boot_all1 : bootBuiltins "all" = some (.builtin "all") := by decide +kernel
theorem boot_any1 : bootBuiltins "any" = some (.builtin "any") := by decide +kernel
theorem boot_min1 : bootBuiltins "min" = some (.builtin "min") := by decide +kernel
theorem boot_max1 : bootBuiltins "max" = some (.builtin "max") := by decide +kernel
theorem boot_isi1 : bootBuiltins "isinstance" = some (.builtin "isinstance") := by decide +kernel
theorem boot_int1 : bootBuiltins "int" = some (.type "int") := by decide +kernel
theorem boot_tup1 : bootBuiltins "tuple" = some (.type "tuple") := by decide +kernel
theorem boot_lst1 : bootBuiltins "list" = some (.type "list") := by decide +kernel
theorem n_b1 (C : Cok g P w mg base k fr E N sc fc X) {p : P1} {id : String} (hp : p ≠ .rev) (hc : CallR X (.builtin id) (r1 X.K p)) (hm : mg nm = none) (hv : bootBuiltins nm = some (.builtin id)) (hn : nm ≠ "__name__") (hg : glB sc nm = true)
    (he : starEach [a] X.env = (false, eval a X.env) :: starEach [] X.env) (ha : PE X a (rdo g m fr E xa)) : PE X (.Call (.Name nm p1) [a] [] pos) (rd g m fr E (.p1 p xa)) :=
  ok_1B (nm := nm) (np := p1) hp hc (fun {ta} h => pe_callB hc (C.gl hg) (C.mgn hm) hv h hn (glB_d hg) he rfl) he C.K ha
theorem n_t1 (C : Cok g P w mg base k fr E N sc fc X) {p : P1} {T : String} (hp : p ≠ .rev) (hc : CallR X (.type T) (r1 X.K p)) (hm : mg nm = none) (hv : bootBuiltins nm = some (.type T)) (hn : nm ≠ "__name__") (hg : glB sc nm = true)
    (he : starEach [a] X.env = (false, eval a X.env) :: starEach [] X.env) (ha : PE X a (rdo g m fr E xa)) : PE X (.Call (.Name nm p1) [a] [] pos) (rd g m fr E (.p1 p xa)) :=
  ok_1B (nm := nm) (np := p1) hp hc (fun {ta} h => pe_callTy hc (C.gl hg) (C.mgn hm) hv h hn (glB_d hg) he rfl) he C.K ha
theorem n_len (C : Cok g P w mg base k fr E N sc fc X) (B : Blt mg) (hg : glB sc "len" = true) (he : starEach [a] X.env = (false, eval a X.env) :: starEach [] X.env) (ha : PE X a (rdo g m fr E xa)) : PE X (.Call (.Name "len" p1) [a] [] pos) (rd g m fr E (.p1 .len xa)) :=
  n_b1 C (by intro h; cases h) (call_len_seq.or call_len_str) B.len boot_len1 (by decide) hg he ha
theorem n_abs (C : Cok g P w mg base k fr E N sc fc X) (B : Blt mg) (hg : glB sc "abs" = true) (he : starEach [a] X.env = (false, eval a X.env) :: starEach [] X.env) (ha : PE X a (rdo g m fr E xa)) : PE X (.Call (.Name "abs" p1) [a] [] pos) (rd g m fr E (.p1 .abs xa)) :=
  n_b1 C (by intro h; cases h) call_abs B.abs boot_abs1 (by decide) hg he ha
theorem n_sum (C : Cok g P w mg base k fr E N sc fc X) (B : Blt mg) (hg : glB sc "sum" = true) (he : starEach [a] X.env = (false, eval a X.env) :: starEach [] X.env) (ha : PE X a (rdo g m fr E xa)) : PE X (.Call (.Name "sum" p1) [a] [] pos) (rd g m fr E (.p1 .sum xa)) :=
  n_b1 C (by intro h; cases h) (cr_sum C.calm) B.sum boot_sum1 (by decide) hg he ha
theorem n_all (C : Cok g P w mg base k fr E N sc fc X) (B : Blt mg) (hg : glB sc "all" = true) (he : starEach [a] X.env = (false, eval a X.env) :: starEach [] X.env) (ha : PE X a (rdo g m fr E xa)) : PE X (.Call (.Name "all" p1) [a] [] pos) (rd g m fr E (.p1 .all xa)) :=
  n_b1 C (by intro h; cases h) (cr_all C.calm) B.all boot_all1 (by decide) hg he ha
theorem n_any (C : Cok g P w mg base k fr E N sc fc X) (B : Blt mg) (hg : glB sc "any" = true) (he : starEach [a] X.env = (false, eval a X.env) :: starEach [] X.env) (ha : PE X a (rdo g m fr E xa)) : PE X (.Call (.Name "any" p1) [a] [] pos) (rd g m fr E (.p1 .any xa)) :=
  n_b1 C (by intro h; cases h) (cr_any C.calm) B.any boot_any1 (by decide) hg he ha
theorem n_int1 (C : Cok g P w mg base k fr E N sc fc X) (B : Blt mg) (hg : glB sc "int" = true) (he : starEach [a] X.env = (false, eval a X.env) :: starEach [] X.env) (ha : PE X a (rdo g m fr E xa)) : PE X (.Call (.Name "int" p1) [a] [] pos) (rd g m fr E (.p1 .toInt xa)) :=
  n_t1 C (by intro h; cases h) call_int1 B.int boot_int1 (by decide) hg he ha
theorem n_tup1 (C : Cok g P w mg base k fr E N sc fc X) (B : Blt mg) (hg : glB sc "tuple" = true) (he : starEach [a] X.env = (false, eval a X.env) :: starEach [] X.env) (ha : PE X a (rdo g m fr E xa)) : PE X (.Call (.Name "tuple" p1) [a] [] pos) (rd g m fr E (.p1 .tuple xa)) :=
  n_t1 C (by intro h; cases h) call_tuple_of B.tuple boot_tup1 (by decide) hg he ha
theorem n_lst1 (C : Cok g P w mg base k fr E N sc fc X) (B : Blt mg) (hg : glB sc "list" = true) (he : starEach [a] X.env = (false, eval a X.env) :: starEach [] X.env) (ha : PE X a (rdo g m fr E xa)) : PE X (.Call (.Name "list" p1) [a] [] pos) (rd g m fr E (.p1 .list xa)) :=
  n_t1 C (by intro h; cases h) call_list_of B.list boot_lst1 (by decide) hg he ha
/-- two arguments -/
theorem rdo_two {p : P2} (hK : X.K = g.K) (pe : ∀ {ta : TA}, PA X [a, b] ta → PE X e fun σ H Q => ta σ H fun vs H1 => ∃ x y, vs = [x, y] ∧ r2 X.K p x y H1 Q) (hs : starEach [a, b] X.env = (false, eval a X.env) :: starEach [b] X.env) (hs2 : starEach [b] X.env = (false, eval b X.env) :: starEach [] X.env)
    (ha : PE X a (rdo g m fr E xa)) (hb : PE X b (rdo g m fr E xb)) : PE X e (rd g m fr E (.p2 p xa xb)) :=
  (pe (pa_cons ha (pa_cons hb pa_nil hs2) hs)).imp fun σ H Q ⟨B, O, al, r, M, s, q⟩ => rdo_of s q fun d M1 v H1 al1 q1 g1 s1 r1 => rdo_of s1 q1 fun d2 M2 u H2 al2 q2 g2 s2 r2 => by
    rw [hK]
    exact ⟨v, u, rfl, w2_ok s2.at (r1.grow g2) r2 (w2_mono q2 fun z hz => hz.tail (g1.trans g2))⟩
theorem n_min2 (C : Cok g P w mg base k fr E N sc fc X) (B : Blt mg) (hg : glB sc "min" = true) (hs : starEach [a, b] X.env = (false, eval a X.env) :: starEach [b] X.env) (hs2 : starEach [b] X.env = (false, eval b X.env) :: starEach [] X.env) (hpl : (backTo pos (starEach [b] X.env)).any (·.1) = false)
    (ha : PE X a (rdo g m fr E xa)) (hb : PE X b (rdo g m fr E xb)) : PE X (.Call (.Name "min" p1) [a, b] [] pos) (rd g m fr E (.p2 .min2 xa xb)) :=
  rdo_two (p := .min2) C.K (fun {ta} h => pe_callB (r := fun vs H1 Q => ∃ x y, vs = [x, y] ∧ r2 X.K .min2 x y H1 Q) (fun pins s σ H xs us Q I r h => by
    obtain ⟨x, y, rfl, i, j, e, q⟩ := h
    exact call_min2 C.calm pins s σ H _ us Q I r ⟨i, j, e, q⟩) (C.gl hg) (C.mgn B.min) boot_min1 h (by decide) (glB_d hg) hs hpl) hs hs2 ha hb
theorem n_max2 (C : Cok g P w mg base k fr E N sc fc X) (B : Blt mg) (hg : glB sc "max" = true) (hs : starEach [a, b] X.env = (false, eval a X.env) :: starEach [b] X.env) (hs2 : starEach [b] X.env = (false, eval b X.env) :: starEach [] X.env) (hpl : (backTo pos (starEach [b] X.env)).any (·.1) = false)
    (ha : PE X a (rdo g m fr E xa)) (hb : PE X b (rdo g m fr E xb)) : PE X (.Call (.Name "max" p1) [a, b] [] pos) (rd g m fr E (.p2 .max2 xa xb)) :=
  rdo_two (p := .max2) C.K (fun {ta} h => pe_callB (r := fun vs H1 Q => ∃ x y, vs = [x, y] ∧ r2 X.K .max2 x y H1 Q) (fun pins s σ H xs us Q I r h => by
    obtain ⟨x, y, rfl, i, j, e, q⟩ := h
    exact call_max2 C.calm pins s σ H _ us Q I r ⟨i, j, e, q⟩) (C.gl hg) (C.mgn B.max) boot_max1 h (by decide) (glB_d hg) hs hpl) hs hs2 ha hb
theorem n_gcd (C : Cok g P w mg base k fr E N sc fc X) (hm : mg "gcd" = some (.builtin "math.gcd")) (hg : glB sc "gcd" = true) (hs : starEach [a, b] X.env = (false, eval a X.env) :: starEach [b] X.env) (hs2 : starEach [b] X.env = (false, eval b X.env) :: starEach [] X.env) (hpl : (backTo pos (starEach [b] X.env)).any (·.1) = false)
    (ha : PE X a (rdo g m fr E xa)) (hb : PE X b (rdo g m fr E xb)) : PE X (.Call (.Name "gcd" p1) [a, b] [] pos) (rd g m fr E (.p2 .gcd xa xb)) :=
  rdo_two (p := .gcd) C.K (fun {ta} h => pe_callBfun (r := fun vs H1 Q => ∃ x y, vs = [x, y] ∧ r2 X.K .gcd x y H1 Q) (fun pins s σ H xs us Q I r h => by
    obtain ⟨x, y, rfl, q⟩ := h
    exact cr_gcd pins s σ H _ us Q I r q) (C.gl hg) (C.mgn hm) h (glB_d hg) hs hpl) hs hs2 ha hb
/-- the classes of isinstance -/
theorem n_ty {t : Ty} {id : String} (C : Cok g P w mg base k fr E N sc fc X) (hm : mg nm = none) (hv : bootBuiltins nm = some (.type id)) (hn : nm ≠ "__name__") (hg : glB sc nm = true) (ht : tyNm t = id) : PE X (.Name nm pos) (tC (.ty (tyNm t))) := by
  subst ht
  exact pe_bltn (C.gl hg) (C.mgn hm) hv rfl hn (glB_d hg)
theorem n_isi {t : Ty} {tE : Expr} (C : Cok g P w mg base k fr E N sc fc X) (B : Blt mg) (hg : glB sc "isinstance" = true) (hto : (match t with
    | .own _ => false
    | _ => true) = true) (hs : starEach [a, tE] X.env = (false, eval a X.env) :: starEach [tE] X.env) (hs2 : starEach [tE] X.env = (false, eval tE X.env) :: starEach [] X.env) (hpl : (backTo pos (starEach [tE] X.env)).any (·.1) = false)
    (ha : PE X a (rd g m fr E xa)) (hT : PE X tE (tC (.ty (tyNm t)))) : PE X (.Call (.Name "isinstance" p1) [a, tE] [] pos) (rd g m fr E (.isi [t] xa)) :=
  ok_isi1 (p := pos) C.K hT (fun k z => by subst z; cases hto) (fun {ta} h => pe_callB call_isi (C.gl hg) (C.mgn B.isinstance) boot_isi1 h (by decide) (glB_d hg) hs hpl) hs hs2 ha
theorem n_tynil : PA X [] fun σ H Q => Q ((([] : List Ty)).map fun c => V.ty (tyNm c)) H := pa_nil
theorem n_tycons {t : Ty} {ts : List Ty} {es : List Expr} (hs : starEach (a :: es) X.env = (false, eval a X.env) :: starEach es X.env) (ha : PE X a (tC (.ty (tyNm t)))) (hr : PA X es fun σ H Q => Q (ts.map fun c => V.ty (tyNm c)) H) : PA X (a :: es) fun σ H Q => Q ((t :: ts).map fun c => V.ty (tyNm c)) H := pa_cons ha hr hs
theorem n_isiN {cs : List Ty} {es : List Expr} {j : Nat} (C : Cok g P w mg base k fr E N sc fc X) (B : Blt mg) (hg : glB sc "isinstance" = true) (hcs : (decide (cs.length ≤ 100) && cs.any fun t => match t with
    | .own _ => false
    | _ => true) = true) (hs : starEach [a, .Tuple es j p2] X.env = (false, eval a X.env) :: starEach [.Tuple es j p2] X.env) (hs2 : starEach [.Tuple es j p2] X.env = (false, eval (.Tuple es j p2) X.env) :: starEach [] X.env) (hpl : (backTo pos (starEach [.Tuple es j p2] X.env)).any (·.1) = false)
    (ha : PE X a (rd g m fr E xa)) (hT : PA X es fun σ H Q => Q (cs.map fun c => V.ty (tyNm c)) H) : PE X (.Call (.Name "isinstance" p1) [a, .Tuple es j p2] [] pos) (rd g m fr E (.isi cs xa)) := by
  rw [Bool.and_eq_true, decide_eq_true_eq, List.any_eq_true] at hcs
  obtain ⟨h1, t, h2, h3⟩ := hcs
  exact ok_isiN (tE := .Tuple es j p2) (tt := fun _ _ _ => True) C.K h1 ⟨t, h2, fun k z => by subst z; cases h3⟩ hT (fun {ta} h => pe_callB call_isiT (C.gl hg) (C.mgn B.isinstance) boot_isi1 h (by decide) (glB_d hg) hs hpl) hs hs2 ha
end
end PV

set_option Elab.async false
set_option linter.all false
set_option maxRecDepth 100000
set_option maxHeartbeats 4000000
/-! PV part 12: short rules for tests, what is walked, comprehensions, statements. -/
namespace PV
open PySem PySem.Spec PyProof.Rows L2

theorem _root_.L2.PC.imp {X : Cx} {o : CmpOp} {a b : Expr} {t t' : TE} (h : PC X o a b t) (k : ∀ σ H Q, t' σ H Q → t σ H Q) : PC X o a b t' := ⟨fun pins s σ H Q I q => h.run pins s σ H Q I (k _ _ _ q)⟩
theorem pc_R {X : Cx} {op : CmpOp} {r : R2} {a b : Expr} {ta tb : TE} (ho : OpR X (compareOp op) r) (ha : PE X a ta) (hb : PE X b tb) : PC X op a b (tOp r ta tb) :=
  ⟨fun pins s σ H Q I h => thn (ha.run pins s σ H _ I h) fun v s1 ⟨x, H1, I1, r1, q1⟩ => thn (hb.run pins s1 σ H1 _ I1 q1) fun u s2 ⟨y, H2, I2, r2, q2⟩ => ho pins s2 σ H2 x y v u Q I2 r1 r2 q2⟩
section
variable {g : GC} {m : Sm} {P : Program} {w : World} {mg : Str → Option Value} {base : Heap} {k : Nat} {fr : Fm} {E : Ex} {N : List Str} {sc : Scope} {fc : Bool} {X : Cx}
variable {a b c e : Expr} {xa xb xc x : PV.X} {sa sb : S} {st : Stmt} {pos p1 p2 p3 : Pos} {nm : Str}
/-! ### tests -/
theorem t_val (he : ∀ whole, isTrue a X.env whole = (do let v ← whole; standAt a.pos; holding [v] (truthy v))) (ha : PE X a (rd g m fr E xa)) : PT X a (rdt g m fr E xa) := ok_t ha he
theorem t_cmp (C : Cok g P w mg base k fr E N sc fc X) {p : P2} {o : CmpOp} (h : cmpop p = some o) (hm : behindInMarks o b = false) (ha : PE X a (rdo g m fr E xa)) (hb : PE X b (rdo g m fr E xb)) : PT X (.Compare a [o] [b] pos) (rdt g m fr E (.p2 p xa xb)) :=
  ok_tcmp ((pc_R (r2_cmp C.un h) ha hb).imp fun σ H Q ⟨B, O, al, r, M, s, q⟩ => rdo_of s q fun d M1 v H1 al1 q1 g1 s1 r1 => rdo_of s1 q1 fun d2 M2 u H2 al2 q2 g2 s2 r2 => by
    rw [C.K]
    exact w2_ok s2.at (r1.grow g2) r2 (w2_mono q2 fun z hz => hz.tail (g1.trans g2))) hm
theorem nonV {d : PV.D} {v : V} {al : List Addr} {Hm : Hp} (h : Rep g al Hm d v) : decide (v = .non) = isNon d := by
  cases d with
  | non => cases (show v = _ from h); rfl
  | bl b => cases (show v = _ from h); rfl
  | int b => cases (show v = _ from h); rfl
  | str b => cases (show v = _ from h); rfl
  | tup b => obtain ⟨a, vs, rfl, _⟩ := h; rfl
  | lst b => obtain ⟨a, vs, rfl, _⟩ := h; rfl
  | scr b => obtain ⟨a, rfl, _⟩ := h; rfl
  | fn b => cases (show v = _ from h); rfl
  | exc b f => obtain ⟨a, d, vs, rfl, _⟩ := h; rfl
  | tok b => obtain ⟨a, _, rfl⟩ := h; rfl
theorem t_isN {j : Nat} (ha : PE X a (rd g m fr E xa)) : PT X (.Compare a [.Is] [.Constant .none j p1] pos) (rdt g m fr E (.isN false xa)) :=
  ok_tcmp ((pc_isN ha).imp fun σ H Q ⟨B, O, al, r, M, s, q⟩ => rd_of s q fun d M1 v H1 al1 q1 g1 s1 r1 => by
    rw [nonV r1]
    exact q1 _ H1 al1 g1 s1.at.ms (by show V.bl _ = V.bl _; rw [Bool.false_xor])) rfl
theorem t_ntN {j : Nat} (ha : PE X a (rd g m fr E xa)) : PT X (.Compare a [.IsNot] [.Constant .none j p1] pos) (rdt g m fr E (.isN true xa)) :=
  ok_tcmp ((pc_notN ha).imp fun σ H Q ⟨B, O, al, r, M, s, q⟩ => rd_of s q fun d M1 v H1 al1 q1 g1 s1 r1 => by
    rw [nonV r1]
    exact q1 _ H1 al1 g1 s1.at.ms (by show V.bl _ = V.bl _; rw [Bool.true_xor])) rfl
theorem t_chn (C : Cok g P w mg base k fr E N sc fc X) {p q : P2} {o o' : CmpOp} (h : cmpop p = some o) (h' : cmpop q = some o') (hl : lastMarks [o, o'] [b, c] = false) (ha : PE X a (rdo g m fr E xa)) (hb : PE X b (rdo g m fr E xb)) (hc : PE X c (rdo g m fr E xc)) :
    PT X (.Compare a [o, o'] [b, c] pos) (rdt g m fr E (.chn p q xa xb xc)) :=
  (pt_chain (r2_cmp C.un h) (r2_cmp C.un h') ha hb hc hl).imp fun σ H Q ⟨B, O, al, r, M, s, q⟩ => rdo_of s q fun d M1 v H1 al1 q1 g1 s1 r1 => rdo_of s1 q1 fun d2 M2 u H2 al2 q2 g2 s2 r2 => by
    rw [C.K]
    refine w2_ok s2.at (r1.grow g2) r2 (w2_mono q2 fun z hz => ?_)
    intro w' H3 al3 g3 m3 r3
    obtain ⟨kk, rfl, hz'⟩ := wb_el hz
    refine ⟨kk, r3, ?_⟩
    have s3 := s2.grow g3 m3
    cases kk with
    | false =>
      rw [if_neg Bool.false_ne_true] at hz'
      show (if false = true then _ else _)
      rw [if_neg Bool.false_ne_true]
      exact ⟨false, rfl, hz' H3 al3 ((g1.trans g2).trans g3) m3⟩
    | true =>
      rw [if_pos rfl] at hz'
      show (if true = true then _ else _)
      rw [if_pos rfl]
      refine rdo_of s3 hz' fun d4 M4 w4 H4 al4 q4 g4 s4 r4 => w2_ok s4.at ((r2.grow g3).grow g4) r4 (w2_mono q4 fun z hz => ?_)
      intro w5 H5 al5 g5 m5 r5
      obtain ⟨kk, rfl, hz'⟩ := wb_el hz
      exact ⟨kk, r5, hz' H5 al5 ((((g1.trans g2).trans g3).trans g4).trans g5) m5⟩
theorem t_nt (ha : PT X a (rdt g m fr E xa)) : PT X (.UnaryOp .Not a pos) (rdt g m fr E (.nt xa)) := ok_tnt ha
theorem t_an {rest : List Expr} (ha : PT X a (rdt g m fr E xa)) (hb : PW X (.BoolOp .And (b :: rest) pos) (rdt g m fr E xb)) : PW X (.BoolOp .And (a :: b :: rest) pos) (rdt g m fr E (.an xa xb)) := ok_tan ha hb
theorem t_or {rest : List Expr} (ha : PT X a (rdt g m fr E xa)) (hb : PW X (.BoolOp .Or (b :: rest) pos) (rdt g m fr E xb)) : PW X (.BoolOp .Or (a :: b :: rest) pos) (rdt g m fr E (.or xa xb)) := ok_tor ha hb
theorem t_an1 (ha : PT X a (rdt g m fr E xa)) : PW X (.BoolOp .And [a] pos) (rdt g m fr E xa) := pw_and1 ha
theorem t_or1 (ha : PT X a (rdt g m fr E xa)) : PW X (.BoolOp .Or [a] pos) (rdt g m fr E xa) := pw_or1 ha
theorem t_w (h : PW X e (rdt g m fr E x)) : PT X e (rdt g m fr E x) := h.pt
theorem t_ife (hc : PT X c (rdt g m fr E xc)) (ha : PT X a (rdt g m fr E xa)) (hb : PT X b (rdt g m fr E xb)) : PT X (.IfExp c a b pos) (rdt g m fr E (.ife xc xa xb)) := by
  refine ⟨fun pins s σ H Q I ⟨B, O, al, r, M, st, q⟩ => isTrue_IfExp (thn (hc.run pins s σ H (fun b H1 => if b = true then rdt g m fr E xa σ H1 Q else rdt g m fr E xb σ H1 Q) I ?_) fun b s1 ⟨H1, I1, q1⟩ => ?_)⟩
  · exact rdt_of st q fun d M1 q1 => wb_mono q1 fun kk q1 H1 al1 g1 s1 => by
      cases kk with
      | true => exact rdt_of s1 q1 fun d2 M2 q2 => wb_mono q2 fun _ q2 H2 al2 g2 s2 => q2 H2 al2 (g1.trans g2) s2.at.ms
      | false => exact rdt_of s1 q1 fun d2 M2 q2 => wb_mono q2 fun _ q2 H2 al2 g2 s2 => q2 H2 al2 (g1.trans g2) s2.at.ms
  · cases b with
    | true => exact ha.run pins s1 σ H1 Q I1 q1
    | false => exact hb.run pins s1 σ H1 Q I1 q1
/-! ### targets -/
theorem g_nm (C : Cok g P w mg base k fr E N sc fc X) {i : Nat} (h : locB N sc fc i nm = true) : PG X (.Name nm pos) (tg X.K (.nm i)) := by
  obtain ⟨h1, h2, h3⟩ := C.tgt h
  exact pg_name (by rw [C.eN]; exact C.nd) (by rw [C.eN]; exact h1) h2 h3
theorem g_nil : PGs X [] (tgs []) := pgs_nil
theorem g_cons (C : Cok g P w mg base k fr E N sc fc X) {i : Nat} {is : List Nat} {es : List Expr} (h : locB N sc fc i nm = true) (hr : PGs X es (tgs is)) (hs : (assignEach (.Name nm pos :: es) X.env).map (·.2) = assign (.Name nm pos) X.env :: (assignEach es X.env).map (·.2)) : PGs X (.Name nm pos :: es) (tgs (i :: is)) := by
  obtain ⟨h1, h2, h3⟩ := C.tgt h
  exact pgs_cons (pg_name (by rw [C.eN]; exact C.nd) (by rw [C.eN]; exact h1) h2 h3) hr hs
theorem g_tp (C : Cok g P w mg base k fr E N sc fc X) {is : List Nat} {es : List Expr} {j : Nat} (hn : (assignEach es X.env).length = is.length) (hst : (assignEach es X.env).findIdx? (·.1) = none) (h : PGs X es (tgs is)) : PG X (.Tuple es j pos) (tg X.K (.tp is)) := pg_tup C.calm h hn hst
/-! ### what is walked -/
theorem w_t (h : PE X e (rdo g m fr E x)) : PE X e (rdw true g m fr E x) := rdw_true h
theorem w_f (hx : (match x with
  | .pk _ => false
  | _ => true) = true) (h : PE X e (rd g m fr E x)) : PE X e (rdw false g m fr E x) := rdw_false h fun i z => by subst z; cases hx
theorem i_seq {tgt : Expr} {wf : Bool} (C : Cok g P w mg base k fr E N sc fc X) (ha : PE X a (rdw wf g m fr E xa)) : PI X tgt a (rdi wf g m fr E (.iseq xa)) := ok_iseq C.K ha
theorem i_rng {tgt : Expr} {wf : Bool} (C : Cok g P w mg base k fr E N sc fc X) (B : Blt mg) (hg : glB sc "range" = true) (hs : starEach [a] X.env = [(false, eval a X.env)]) (ha : PE X a (rd g m fr E xa)) : PI X tgt (.Call (.Name "range" p1) [a] [] pos) (rdi wf g m fr E (.irng xa)) := ok_irng (C.gl hg) (C.mgn B.range) hs ha
theorem i_rng2 {tgt : Expr} {wf : Bool} (C : Cok g P w mg base k fr E N sc fc X) (B : Blt mg) (hg : glB sc "range" = true) (hs : starEach [a, b] X.env = [(false, eval a X.env), (false, eval b X.env)]) (hs2 : starEach [b] X.env = [(false, eval b X.env)]) (ha : PE X a (rd g m fr E xa)) (hb : PE X b (rd g m fr E xb)) :
    PI X tgt (.Call (.Name "range" p1) [a, b] [] pos) (rdi wf g m fr E (.irng2 xa xb)) := ok_irng2 (C.gl hg) (C.mgn B.range) hs hs2 ha hb
theorem i_zip {elts : List Expr} {kk : Nat} {wf : Bool} (C : Cok g P w mg base k fr E N sc fc X) (B : Blt mg) (hg : glB sc "zip" = true) (hs : starEach [a, b] X.env = (false, eval a X.env) :: starEach [b] X.env) (hs2 : starEach [b] X.env = (false, eval b X.env) :: starEach [] X.env) (hpl : (backTo pos (starEach [b] X.env)).any (·.1) = false)
    (ha : PE X a (rdw wf g m fr E xa)) (hb : PE X b (rdw wf g m fr E xb)) : PI X (.Tuple elts kk p2) (.Call (.Name "zip" p1) [a, b] [] pos) (rdi wf g m fr E (.izip xa xb)) := ok_izip C.K (C.gl hg) (C.mgn B.zip) hs hs2 hpl ha hb
theorem i_enum {elts : List Expr} {kk : Nat} {wf : Bool} (C : Cok g P w mg base k fr E N sc fc X) (B : Blt mg) (hg : glB sc "enumerate" = true) (hs : starEach [a] X.env = [(false, eval a X.env)])
    (ha : PE X a (rdw wf g m fr E xa)) : PI X (.Tuple elts kk p2) (.Call (.Name "enumerate" p1) [a] [] pos) (rdi wf g m fr E (.ienum xa)) := ok_ienum C.K (C.gl hg) (C.mgn B.enumerate) hs ha
/-! ### comprehensions -/
theorem xk_no {cls : Value} {d : Option Addr} {H : Hp} (h : XkOf g fr noX cls d H) : False := by
  obtain ⟨x, M, al, h, _⟩ := h
  exact h
/-- the block's frame -/
theorem Cok.blk (C : Cok g P w mg base k fr E N sc fc X) {s : Shared} {H : Hp} {scope : Scope} {cl : List (Str × Addr)} {C' : Addr} {fp : List Addr} (hk : scope.kind = .function) : Cok g P w mg base k fr noX N (relS scope sc) false (X.blk s H scope (compEnvC scope cl C' X.env) fp) where
  nd := C.nd
  kind := hk
  eP := C.eP
  eW := C.eW
  K := C.K
  eM := C.eM
  eB := C.eB
  eN := C.eN
  eS := by
    show relS scope X.env.scope = _
    rw [C.eS]
  room := C.room
  calm := C.calm
  tk := fun u s' h => by
    obtain ⟨a, B, sI, pins, σ, H, cls, d, _, _, _, _, _, _, _, _, q⟩ := h
    exact (xk_no q).elim
  px := fun pins σ H s e s' I h => by
    obtain ⟨_, _, _, _, _, _, _, _, _, _, _, _, q⟩ := h
    exact (xk_no q).elim
  po := fun h => by cases h
  fn := fun h => by cases h
theorem c_nil : PTs X [] (rdc g m fr .nil) := ok_cnil
theorem c_one (hx : (match xc with
  | .nil => false
  | _ => true) = true) (h : PT X c (rdt g m fr noX xc)) : PTs X [c] (rdc g m fr xc) := ok_cone h fun z => by subst z; cases hx
/-- in what gives lists only -/
theorem rd_F (hx : ∀ E r M Q, wx m x E r M Q → wx m x E r M fun d M' => (∃ ds, d = .lst ds) ∧ Q d M') {σ : L2.St} {H : Hp} {Q : VK} (h : rd g m fr E x σ H Q) : rdF g m fr E x σ H Q := by
  obtain ⟨B, O, al, r, M, s, q⟩ := h
  exact ⟨B, O, al, r, M, s, wx_mono x (hx _ _ _ _ q) (Le.refl _) fun d M' ⟨⟨ds, hd⟩, k⟩ => by
    subst hd
    exact post_F k⟩
theorem lst_lst : ∀ E r M Q, wx m (.lst x) E r M Q → wx m (.lst x) E r M fun d M' => (∃ ds, d = .lst ds) ∧ Q d M' := fun E r M Q h => wl_mono x h (Le.refl _) fun ds M' h => ⟨h.1, ⟨ds, rfl⟩, h.2⟩
theorem lst_comp {own : List Nat} {el it c : PV.X} {t : Tg} : ∀ E r M Q, wx m (.comp own el t it c) E r M Q → wx m (.comp own el t it c) E r M fun d M' => (∃ ds, d = .lst ds) ∧ Q d M' := fun E r M Q h =>
  wi_mono it h (Le.refl _) fun ds M' h => ⟨h.1, cl_mono (st' := cturn own t r (fun r' M => tst c M (wx m c noX r' M)) fun r' M => wx m el noX r' M) (fun d M kk k' h q => cturn_mono (tc' := fun r' M => tst c M (wx m c noX r' M)) (te' := fun r' M => wx m el noX r' M) h (fun h q => tst_mono h (fun h q => wx_mono c h (Le.refl _) q) q) (fun h q => wx_mono el h (Le.refl _) q) q) _ _ _ h.2 fun acc _ h => ⟨⟨acc, rfl⟩, h⟩⟩
theorem lst_list : ∀ E r M Q, wx m (.p1 .list x) E r M Q → wx m (.p1 .list x) E r M fun d M' => (∃ ds, d = .lst ds) ∧ Q d M' := fun E r M Q h =>
  opd_mono (x := x) (w := wx m x E r M) (w' := wx m x E r M) (Q := fun d M' => w1 M' .list d fun e => Q e M') (Q' := fun d M' => w1 M' .list d fun e => (∃ ds, e = .lst ds) ∧ Q e M') h (fun h => wx_mono x h (Le.refl _) fun d M' h => opt_mono h fun ds h => ⟨⟨ds, rfl⟩, h⟩) fun d M' h => opt_mono h fun ds h => ⟨⟨ds, rfl⟩, h⟩
abbrev tComp (g : GC) (m : Sm) (fr : Fm) (E : Ex) (K : PySem.W.Frag) (own : List Nat) (el : PV.X) (t : Tg) (it c : PV.X) : TE := tLc (rdi true g m fr E it) (tg K t) (rdc g m fr c) (rd g m fr noX el) own
theorem comp_F (hK : X.K = g.K) {own : List Nat} {el it c : PV.X} {t : Tg} (htg : (tgIs t).all (fun j => decide (j ∈ own)) = true) {σ : L2.St} {H : Hp} {Q : VK} (h : rdF g m fr E (.comp own el t it c) σ H Q) : tComp g m fr E X.K own el t it c σ H Q := by
  obtain ⟨B, O, al, r, M, s, q⟩ := h
  unfold tComp
  rw [hK]
  exact comp_tLc (fun j hj => of_decide_eq_true (List.all_eq_true.mp htg j hj)) s q
theorem n_comp {own : List (Str × Nat)} {el it c : PV.X} {t : Tg} {elt tgE iter : Expr} {ifs : List Expr} {scope : Scope} (C : Cok g P w mg base k fr E N sc fc X) (hb : blkC N sc scope own = true) (htg : (tgIs t).all (fun j => decide (j ∈ own.map (·.2))) = true)
    (hi : PI X tgE iter (rdi true g m fr E it)) (hg : ∀ {X' : Cx}, Cok g P w mg base k fr noX N (relS scope sc) false X' → PG X' tgE (tg X'.K t)) (ht : ∀ {X' : Cx}, Cok g P w mg base k fr noX N (relS scope sc) false X' → PTs X' ifs (rdc g m fr c))
    (he : ∀ {X' : Cx}, Cok g P w mg base k fr noX N (relS scope sc) false X' → PE X' elt (rd g m fr noX el)) (hs : ∀ x, foldedSetIterable iter X.env x = pure x) : PE X (.ListComp elt [⟨tgE, iter, ifs, 0⟩] scope pos) (tComp g m fr E X.K (own.map (·.2)) el t it c) := by
  have bk : BlkOk X.N X.env.scope scope own := by rw [C.eN, C.eS]; exact blkOk_by hb
  exact pe_lc C.calm (by rw [C.eN]; exact C.nd) hi bk (fun s H C' cl fp => hg (C.blk bk.kind)) (fun s H C' cl fp => ht (C.blk bk.kind)) (fun s H C' cl fp => he (C.blk bk.kind)) hs
theorem n_lc {own : List Nat} {el it c : PV.X} {t : Tg} (C : Cok g P w mg base k fr E N sc fc X) (htg : (tgIs t).all (fun j => decide (j ∈ own)) = true) (h : PE X e (tComp g m fr E X.K own el t it c)) : PE X e (rd g m fr E (.comp own el t it c)) :=
  h.imp fun σ H Q q => comp_F C.K htg (rd_F lst_comp q)
theorem n_lcF {own : List Nat} {el it c : PV.X} {t : Tg} (C : Cok g P w mg base k fr E N sc fc X) (htg : (tgIs t).all (fun j => decide (j ∈ own)) = true) (h : PE X e (tComp g m fr E X.K own el t it c)) : PE X e (rdF g m fr E (.comp own el t it c)) :=
  h.imp fun σ H Q q => comp_F C.K htg q
theorem n_lstF {es : List Expr} (h : PA X es (rdl g m fr E x)) : PE X (.List es pos) (rdF g m fr E (.lst x)) := ok_lstF h
theorem n_list1F (C : Cok g P w mg base k fr E N sc fc X) (B : Blt mg) (hg : glB sc "list" = true) (he : starEach [a] X.env = (false, eval a X.env) :: starEach [] X.env) (ha : PE X a (rdo g m fr E xa)) : PE X (.Call (.Name "list" p1) [a] [] pos) (rdF g m fr E (.p1 .list xa)) :=
  ok_listF (fun {ta} h => pe_callTy (r := r1 X.K .list) call_list_of (C.gl hg) (C.mgn B.list) boot_lst1 (pa_cons h pa_nil he) (by decide) (glB_d hg) he rfl) C.K ha
/-! ### statements -/
def swB (sc scope : Scope) (t : Str) (l1 l2 : Nat) : Bool := (sc.names.lookup t == some .local) && (l1 == l2) && !(scope.names.any fun (n, k) => n == t && (k == .local || k == .cell))
theorem Cok.bk (C : Cok g P w mg base k fr E N sc fc X) : X.env.blockKind = .function := by
  unfold Env.blockKind
  rw [C.eS, C.kind]
  rfl
theorem swaps_lc (C : Cok g P w mg base k fr E N sc fc X) {elt : Expr} {gens : List Comprehension} {scope : Scope} {t : Str} {tp : Pos} {ln : Nat} : swapsWith (.ListComp elt gens scope pos) (some (.Name t tp)) ln X.env = pure (swB sc scope t tp.line pos.line) := by
  have e : X.env.kindOf t = sc.names.lookup t := by
    show X.env.scope.names.lookup t = _
    rw [C.eS]
  show (pure (X.env.blockKind == .function && X.env.kindOf t == some .local && tp.line == pos.line && !(scope.names.any fun (n, k) => n == t && (k == .local || k == .cell))) : Sem Bool) = _
  rw [C.bk, e]
  rfl
theorem ok_asgV {te : TE} {t : Tg} (hK : X.K = g.K) (ha : ∀ σ H Q, rd g m fr E xa σ H Q → te σ H Q) (ps : PS X st (tAsg te (tg X.K t))) : PS X st (rds g m fr E (.asg t xa)) :=
  ps.imp fun D σ H ⟨O, al, r, M, s, q⟩ => ha σ H _ (rd_of s q fun d M1 v H1 al1 q1 g1 s1 r1 => by
    rw [hK]
    exact tg_ok s1 r1 q1 fun σ' O' r' s' k hO _ _ => k σ' H1 O' al1 (g1.stp.trans (.anti fun b hb => hb.imp id fun ⟨i, hi⟩ => ⟨i, by
      rw [hO i] at hi
      split at hi
      · cases hi
      · exact hi⟩)) s')
theorem s_skip : PSs X [] (rds g m fr E .skip) := ok_snil
theorem s_seq {rest : List Stmt} (ha : PS X st (rds g m fr E sa)) (hb : PSs X rest (rds g m fr E sb)) : PSs X (st :: rest) (rds g m fr E (.seq sa sb)) := ok_seq ha hb
theorem s_one (ha : PS X st (rds g m fr E sa)) : PSs X [st] (rds g m fr E sa) := ok_sone ha
theorem s_pas : PS X (.Pass pos) (rds g m fr E .pas) := ok_pas
theorem s_brk : PS X (.Break pos) (rds g m fr E .brk) := ok_brk
theorem s_cont : PS X (.Continue pos) (rds g m fr E .cont) := ok_cont
theorem s_expr (hs : swapsWith e none pos.line X.env = pure false) (ha : PE X e (rd g m fr E xa)) : PS X (.Expr e pos) (rds g m fr E (.expr xa)) := ok_expr ha hs
theorem s_ret (ha : PE X e (rd g m fr E xa)) : PS X (.Return (some e) pos) (rds g m fr E (.ret xa)) := ok_ret ha
theorem s_retN : PS X (.Return none pos) (rds g m fr E .retN) := ok_retN
theorem s_if {ba bb : List Stmt} (hc : PT X c (rdt g m fr E xc)) (ha : PSs X ba (rds g m fr E sa)) (hb : PSs X bb (rds g m fr E sb)) : PS X (.If c ba bb pos) (rds g m fr E (.ife xc sa sb)) := ok_sife hc ha hb
theorem s_asg (C : Cok g P w mg base k fr E N sc fc X) {t : Tg} {tgE : Expr} (hs : swapsWithSole [tgE] e pos.line X.env = pure false) (hw : swappedStores [tgE] e X.env = pure none) (h1 : (assignEach [tgE] X.env).map (·.2) = [assign tgE X.env])
    (hg : PG X tgE (tg X.K t)) (ha : PE X e (rd g m fr E xa)) : PS X (.Assign [tgE] e pos) (rds g m fr E (.asg t xa)) := ok_asg C.K ha hg hs hw h1
theorem s_asgO (C : Cok g P w mg base k fr E N sc fc X) {i : Nat} (h : locB N sc fc i nm = true) (hs : swapsWith e (some (.Name nm p1)) pos.line X.env = pure false) (ha : PE X e (rdF g m fr E xa)) : PS X (.Assign [.Name nm p1] e pos) (rds g m fr E (.asgO i xa)) := by
  obtain ⟨h1, h2, h3⟩ := C.tgt h
  exact ok_asgO (te := rdF g m fr E xa) (tgE := .Name nm p1) (fun _ _ _ h => h) (ps_set (by rw [C.eN]; exact C.nd) (by rw [C.eN]; exact h1) h2 ha hs h3)
/-- name = [..], on one line or not -/
theorem s_setLc {own : List (Str × Nat)} {el it c : PV.X} {t : Tg} {elt tgE iter : Expr} {ifs : List Expr} {scope : Scope} {i : Nat} {pc : Pos} (C : Cok g P w mg base k fr E N sc fc X) (h : locB N sc fc i nm = true) (hb : blkC N sc scope own = true)
    (hi : PI X tgE iter (rdi true g m fr E it)) (hg : ∀ {X' : Cx}, Cok g P w mg base k fr noX N (relS scope sc) false X' → PG X' tgE (tg X'.K t)) (ht : ∀ {X' : Cx}, Cok g P w mg base k fr noX N (relS scope sc) false X' → PTs X' ifs (rdc g m fr c))
    (he : ∀ {X' : Cx}, Cok g P w mg base k fr noX N (relS scope sc) false X' → PE X' elt (rd g m fr noX el)) (hs : ∀ x, foldedSetIterable iter X.env x = pure x) : PS X (.Assign [.Name nm p1] (.ListComp elt [⟨tgE, iter, ifs, 0⟩] scope pc) pos) (tAsg (tComp g m fr E X.K (own.map (·.2)) el t it c) (gName i)) := by
  have bk : BlkOk X.N X.env.scope scope own := by rw [C.eN, C.eS]; exact blkOk_by hb
  obtain ⟨h1, h2, h3⟩ := C.tgt h
  have e := swaps_lc C (pos := pc) (elt := elt) (gens := [⟨tgE, iter, ifs, 0⟩]) (scope := scope) (t := nm) (tp := p1) (ln := pos.line)
  cases q : swB sc scope nm p1.line pc.line with
  | true =>
    rw [q] at e
    have hl : X.env.scope.names.lookup nm = some .local := by
      unfold swB at q
      rw [Bool.and_eq_true, Bool.and_eq_true] at q
      rw [C.eS]
      exact eq_of_beq q.1.1
    exact ps_setLc C.calm (by rw [C.eN]; exact C.nd) (by rw [C.eN]; exact h1) hl e hi bk (fun s H C' cl fp => hg (C.blk bk.kind)) (fun s H C' cl fp => ht (C.blk bk.kind)) (fun s H C' cl fp => he (C.blk bk.kind)) hs
  | false =>
    rw [q] at e
    exact ps_set (by rw [C.eN]; exact C.nd) (by rw [C.eN]; exact h1) h2 (pe_lc C.calm (by rw [C.eN]; exact C.nd) hi bk (fun s H C' cl fp => hg (C.blk bk.kind)) (fun s H C' cl fp => ht (C.blk bk.kind)) (fun s H C' cl fp => he (C.blk bk.kind)) hs) e h3
theorem s_lc {own : List Nat} {el it c : PV.X} {t : Tg} {i : Nat} (C : Cok g P w mg base k fr E N sc fc X) (htg : (tgIs t).all (fun j => decide (j ∈ own)) = true) (h : PS X st (tAsg (tComp g m fr E X.K own el t it c) (gName i))) : PS X st (rds g m fr E (.asg (.nm i) (.comp own el t it c))) :=
  ok_asgV (t := .nm i) C.K (fun σ H Q q => comp_F C.K htg (rd_F lst_comp q)) h
theorem s_lcO {own : List Nat} {el it c : PV.X} {t : Tg} {i : Nat} (C : Cok g P w mg base k fr E N sc fc X) (htg : (tgIs t).all (fun j => decide (j ∈ own)) = true) (h : PS X st (tAsg (tComp g m fr E X.K own el t it c) (gName i))) : PS X st (rds g m fr E (.asgO i (.comp own el t it c))) :=
  ok_asgO (tgE := .Name "" ⟨0, 0, 0, 0⟩) (fun σ H Q q => comp_F C.K htg q) h
theorem s_app (C : Cok g P w mg base k fr E N sc fc X) {i : Nat} {pa pc : Pos} (h : nmB N sc i nm = true) (hbase : attributeBase (.Name nm p1) "append" X.env (eval (.Name nm p1) X.env) = eval (.Name nm p1) X.env)
    (hfew : ((backTo pc (starEach [e] X.env)).all (fun x => !x.1) && (backToKw pc (keywordEach [] X.env)).all (fun x => x.1.isSome) && decide ([e].length + ([] : List Keyword).length + (if ([] : List Keyword).isEmpty then 0 else 1) < 30)) = true)
    (hline : (pa.endLine == pc.line) = true) (hs : starEach [e] X.env = (false, eval e X.env) :: starEach [] X.env) (ha : PE X e (rd g m fr E xa)) : PS X (.Expr (.Call (.Attribute (.Name nm p1) "append" pa) [e] [] pc) pos) (rds g m fr E (.app i xa)) :=
  ok_app C.K (pe_bm PySem.F.plainAttrs_list PySem.F.slot_list_append PySem.F.type_list_append mt_append (C.var h) (pa_cons ha pa_nil hs) hbase hfew hline hs rfl) rfl
theorem s_ext (C : Cok g P w mg base k fr E N sc fc X) {i : Nat} {pa pc : Pos} (h : nmB N sc i nm = true) (hbase : attributeBase (.Name nm p1) "extend" X.env (eval (.Name nm p1) X.env) = eval (.Name nm p1) X.env)
    (hfew : ((backTo pc (starEach [e] X.env)).all (fun x => !x.1) && (backToKw pc (keywordEach [] X.env)).all (fun x => x.1.isSome) && decide ([e].length + ([] : List Keyword).length + (if ([] : List Keyword).isEmpty then 0 else 1) < 30)) = true)
    (hline : (pa.endLine == pc.line) = true) (hs : starEach [e] X.env = (false, eval e X.env) :: starEach [] X.env) (ha : PE X e (rdo g m fr E xa)) : PS X (.Expr (.Call (.Attribute (.Name nm p1) "extend" pa) [e] [] pc) pos) (rds g m fr E (.ext i xa)) :=
  ok_ext C.K (pe_bm PySem.F.plainAttrs_list PySem.F.slot_list_extend PySem.F.type_list_extend mt_extend (C.var h) (pa_cons ha pa_nil hs) hbase hfew hline hs rfl) rfl
theorem s_popT (C : Cok g P w mg base k fr E N sc fc X) {i : Nat} {t : Tg} {tgE : Expr} {pa pc : Pos} (h : nmB N sc i nm = true) (hbase : attributeBase (.Name nm p1) "pop" X.env (eval (.Name nm p1) X.env) = eval (.Name nm p1) X.env) (hline : (pa.endLine == pc.line) = true)
    (hs : swapsWithSole [tgE] (.Call (.Attribute (.Name nm p1) "pop" pa) [] [] pc) pos.line X.env = pure false) (hw : swappedStores [tgE] (.Call (.Attribute (.Name nm p1) "pop" pa) [] [] pc) X.env = pure none) (h1 : (assignEach [tgE] X.env).map (·.2) = [assign tgE X.env])
    (hg : PG X tgE (tg X.K t)) : PS X (.Assign [tgE] (.Call (.Attribute (.Name nm p1) "pop" pa) [] [] pc) pos) (rds g m fr E (.popT t i)) :=
  ok_popT C.K (pe_bm0 PySem.F.plainAttrs_list PySem.F.slot_list_pop PySem.F.type_list_pop mt_pop (C.var h) hbase hline) hg hs hw h1
theorem s_aug (C : Cok g P w mg base k fr E N sc fc X) {i : Nat} {p : P2} {op : Operator} (hp : (p = .add ∧ op = .Add) ∨ (p = .sub ∧ op = .Sub)) (h : locB N sc fc i nm = true) (ha : PE X e (rd g m fr E xa)) : PS X (.AugAssign (.Name nm p1) op e pos) (rds g m fr E (.aug i p xa)) := by
  obtain ⟨h1, h2, h3⟩ := C.tgt h
  exact ok_aug hp ha fun he ho => ps_aug (by rw [C.eN]; exact C.nd) (by rw [C.eN]; exact h1) h2 he ho h3
theorem s_frz {i : Nat} (h : PS X st (rds g m fr E sa)) : PS X st (rds g m fr E (.frz i sa)) := h.imp fun _ _ _ q => frz_imp q
theorem s_frzs {i : Nat} {sts : List Stmt} (h : PSs X sts (rds g m fr E sa)) : PSs X sts (rds g m fr E (.frz i sa)) := h.imp fun _ _ _ q => frz_imp q
theorem s_bad : PS X st (rds g m fr E .bad) := ⟨fun pins s σ H D I ⟨O, al, r, M, st, q⟩ => (show False from q).elim⟩
theorem s_bads {sts : List Stmt} : PSs X sts (rds g m fr E .bad) := ⟨fun pins s σ H D I ⟨O, al, r, M, st, q⟩ => (show False from q).elim⟩
theorem s_while (C : Cok g P w mg base k fr E N sc fc X) {body : List Stmt} (hf : fc = true) (hc : PT X c (rdt g m fr E xc)) (hb : PSs X body (rds g m fr E sb)) : PS X (.While c body [] pos) (rds g m fr E (.while_ xc sb)) := ok_while (C.po hf) hc hb
theorem s_for (C : Cok g P w mg base k fr E N sc fc X) {t : Tg} {tgE it : Expr} {xi : PV.X} {body : List Stmt} (hf : fc = true) (hs : ∀ x, foldedSetIterable it X.env x = pure x) (hi : PI X tgE it (rdi false g m fr E xi)) (hg : PG X tgE (tg X.K t)) (hb : PSs X body (rds g m fr E sb)) :
    PS X (.For tgE it body [] pos) (rds g m fr E (.for_ t xi sb)) := ok_for C.K (C.po hf) C.calm hi hg hb hs
theorem f_nil : PA X [] (rdlF g m fr E [] .nil) := ok_nilF
theorem f_cons {es : List Expr} {ts : List Bool} (hs : starEach (a :: es) X.env = (false, eval a X.env) :: starEach es X.env) (ha : PE X a (rd g m fr E xa)) (hr : PA X es (rdlF g m fr E ts x)) : PA X (a :: es) (rdlF g m fr E (false :: ts) (.cons xa x)) := ok_consF ha hr hs
theorem f_consL {es es' : List Expr} {pl : Pos} {ts : List Bool} (hs : starEach (.List es' pl :: es) X.env = (false, eval (.List es' pl) X.env) :: starEach es X.env) (ha : PA X es' (rdl g m fr E xa)) (hr : PA X es (rdlF g m fr E ts x)) : PA X (.List es' pl :: es) (rdlF g m fr E (true :: ts) (.cons (.lst xa) x)) :=
  ok_consT lst_lst (ok_lstF ha) hr hs
def swSt (sc : Scope) (ts vs : List Expr) : Option (Option (List Str)) :=
  if (!(ts.length == 2 || ts.length == 3) || vs.length != ts.length) = true then some none
  else if (vs.any fun | .Starred .. => true | _ => false) = true then some none
  else
    let line := (ts.head?.map (·.pos.line)).getD 0
    let names := ts.filterMap fun
      | .Name id pos => if sc.names.lookup id == some .local && pos.line == line then some id else none
      | _ => none
    if (names.length != ts.length || names.eraseDups.length != names.length) = true then some none
    else if vs.all (foldedForSure 8) = true then some none
    else if vs.all (constantsAlone 8) = true then none
    else some (some names)
theorem sw_st (C : Cok g P w mg base k fr E N sc fc X) {ts vs : List Expr} {kt k2 : Nat} {pt pt2 : Pos} {o : Option (List Str)} (h : swSt sc ts vs = some o) : swappedStores [.Tuple ts kt pt] (.Tuple vs k2 pt2) X.env = pure o := by
  have e : X.env.kindOf = fun id => sc.names.lookup id := by
    funext id
    show X.env.scope.names.lookup id = _
    rw [C.eS]
  have en : ∀ id, X.env.kindOf id = sc.names.lookup id := fun id => congrFun e id
  unfold swSt at h
  unfold swappedStores
  show (if (!(ts.length == 2 || ts.length == 3) || vs.length != ts.length || X.env.blockKind != .function) = true then _ else _) = _
  rw [C.bk]
  have e0 : ((ScopeKind.function : ScopeKind) != .function) = false := rfl
  rw [e0, Bool.or_false]
  split at h
  · cases h; rw [if_pos (by assumption)]
  · rw [if_neg (by assumption)]
    split at h
    · cases h
      exact if_pos (by assumption)
    · refine (if_neg (by assumption)).trans ?_
      dsimp only at h ⊢
      rw [e]
      dsimp only
      split at h
      · cases h; exact if_pos (by assumption)
      · refine (if_neg (by assumption)).trans ?_
        split at h
        · cases h; exact if_pos (by assumption)
        · refine (if_neg (by assumption)).trans ?_
          split at h
          · cases h
          · cases h
            exact if_neg (by assumption)
theorem s_par2 (C : Cok g P w mg base k fr E N sc fc X) {i j : Nat} {y : Str} {px py pt : Pos} {kt k2 : Nat} {pt2 : Pos} {fi fj : Bool} (h : swSt sc [.Name nm px, .Name y py] [a, b] = some (some [nm, y])) (hij : (decide (N[i]? = some nm) && decide (N[j]? = some y) && decide (i ≠ j) && decide (sc.names.lookup nm = some .local) && decide (sc.names.lookup y = some .local)) = true)
    (ha : PA X [a, b] (rdlF g m fr E [fi, fj] x)) : PS X (.Assign [.Tuple [.Name nm px, .Name y py] kt pt] (.Tuple [a, b] k2 pt2) pos) (rds g m fr E (.par [(i, fi), (j, fj)] x)) := by
  simp only [Bool.and_eq_true, decide_eq_true_eq] at hij
  obtain ⟨⟨⟨⟨h1, h2⟩, h3⟩, h4⟩, h5⟩ := hij
  exact ok_par2 C.calm (by rw [C.eN]; exact C.nd) (by rw [C.eN]; exact h1) (by rw [C.eN]; exact h2) h3 (by rw [C.eS]; exact h4) (by rw [C.eS]; exact h5) ha (sw_st C h) rfl
theorem s_parN (C : Cok g P w mg base k fr E N sc fc X) {es tes : List Expr} {ts : List (Nat × Bool)} {kt k2 : Nat} {pt pt2 : Pos} (h : swSt sc tes es = some none) (hl : decide (ts.length ≤ 1000) = true) (h1 : (assignEach [.Tuple tes kt pt] X.env).map (·.2) = [assign (.Tuple tes kt pt) X.env])
    (hg : PG X (.Tuple tes kt pt) (tg X.K (.tp (ts.map (·.1))))) (ha : PA X es (rdlF g m fr E (ts.map (·.2)) x)) : PS X (.Assign [.Tuple tes kt pt] (.Tuple es k2 pt2) pos) (rds g m fr E (.par ts x)) :=
  ok_parN C.K ha hg (of_decide_eq_true hl) rfl (sw_st C h) h1
theorem s_rais (C : Cok g P w mg base k fr E N sc fc X) {n : Nat} {msg : Str} {j : Nat} (hk : m.kept n = false) (pm : PMk X (.Call (.Name nm p1) [.Constant (.str msg) j p2] [] p3) fun _ H Q => Q (.ref (g.ec n)) none H) :
    PS X (.Raise (some (.Call (.Name nm p1) [.Constant (.str msg) j p2] [] p3)) none pos) (rds g m fr E (.rais n (.cons (.str msg) .nil))) := ok_rais C.calm C.tk hk pm
end
end PV

set_option Elab.async false
set_option linter.all false
set_option maxRecDepth 100000
set_option maxHeartbeats 4000000
/-! PV part 13: a def keeps its promise. -/
namespace PV
open PySem PySem.Spec PyProof.Rows L2

theorem boot1_int : bootBuiltins "int" = some (.type "int") := by decide +kernel
theorem boot1_bool : bootBuiltins "bool" = some (.type "bool") := by decide +kernel
theorem boot1_str : bootBuiltins "str" = some (.type "str") := by decide +kernel
theorem boot1_tuple : bootBuiltins "tuple" = some (.type "tuple") := by decide +kernel
theorem boot1_list : bootBuiltins "list" = some (.type "list") := by decide +kernel
theorem boot1_dict : bootBuiltins "dict" = some (.type "dict") := by decide +kernel
def startR (N : List Str) (ds : List D) : Ro := ds.map .val ++ List.replicate (N.length - ds.length) .un
section
variable {g : GC} {m : Sm} {P : Program} {w : World} {mg : Str → Option Value} {base : Heap}
theorem start_ok {fr : Fm} {N : List Str} {ds : List D} {vs : List V} {M : Ms} (hP : ∀ b, fr.B0 b → (fr.H0 b).isSome = true ∧ b ∉ fr.al0) (ms : MsOk g fr.al0 (hp fr.B0 fr.al0 fr.H0) fr.H0 M) (rs : Reps g fr.al0 (hp fr.B0 fr.al0 fr.H0) ds vs) :
    Sta g fr fr.B0 (fun _ => none) fr.al0 (L2.start N vs) fr.H0 (startR N ds) M := by
  have eh : hid fr.B0 (fun _ => none) = fr.B0 := by
    funext b
    simp [hid]
  have hl := rs.length
  have e1 : hm fr.B0 (fun _ => none) fr.al0 fr.H0 = hp fr.B0 fr.al0 fr.H0 := by
    show hp (hid fr.B0 fun _ => none) fr.al0 fr.H0 = _
    rw [eh]
  refine ⟨{ len := ?_, sl := fun i s h => ?_, inj := (fun _ _ _ h => by cases h), lt := (fun _ _ h => by cases h), fr := (fun _ _ h => by cases h), ms := (by rw [e1]; exact ms), bt := hP, gr := Grow.refl _ _ }, fun _ h => h⟩
  · unfold L2.start startR
    simp [hl]
  · rw [e1]
    unfold startR at h
    by_cases hi : i < ds.length
    · rw [List.getElem?_append_left (by simpa using hi), List.getElem?_map, List.getElem?_eq_getElem hi] at h
      cases h
      obtain ⟨v, hv, rv⟩ := rs.get (List.getElem?_eq_getElem hi)
      refine ⟨rfl, v, ?_, rv⟩
      unfold L2.start
      rw [List.getElem?_append_left (by simpa [hl] using hi), List.getElem?_map, hv]
      rfl
    · rw [List.getElem?_append_right (by simpa using hi), List.getElem?_replicate] at h
      split at h
      · cases h; exact rfl
      · cases h
theorem fct_of {lev j : Nat} {nm : Str} {st : Stmt} {ps N : List Str} {fd : FuncData} {body : S} (F : FunD g.K nm nm (defArgs st) (defBody st) (defScope st) [] [] (g.fa j) fd) (hm : mg nm = some (.ref (g.fa j))) (S : FnScope N ps (defScope st))
    (hb : ∀ (kV doc pm : Value) (an : Option Addr) (cdv ct : Value) (us : List Value), us.length = ps.length → bindArgs (PySem.W.fnOf nm nm (defArgs st) (defBody st) (defScope st) .none kV doc pm an cdv ct) ⟨us, []⟩ = pure (ps.zip us))
    (hw : ∀ {X : Cx} {fr : Fm} {E : Ex}, Cok g P w mg base lev fr E N (defScope st) true X → PSs X (defBody st) (rds g m fr E body))
    (hs : ∀ ds M Q E, ds.length = ps.length → (m.fn j).run ds M Q E → ws m body E (startR N ds) M { nx := fun _ M' => Q .non M', rt := Q }) : Fct g m P w mg base (lev + 1) j nm st ps := by
  refine ⟨⟨fd, F.ok S (fun vs H Q E h => h.1) fun cdv A outer s H vs Q E hr hsp => ?_, F, F.bindsN hb⟩, hm⟩
  obtain ⟨hl, Pm, al, M, ds, hP, ms, rs, run⟩ := hsp
  let fr : Fm := ⟨Pm, al, H⟩
  let E' : Ex := ends g Pm al H E
  have tk0 : Takes (cxOf (L2.CX P w) P w g.K mg base N nm (defScope st) (g.fa j) cdv A outer s H E) (fun cls d _ H => E cls d H) := takes_of rfl rfl rfl rfl
  have tk : Takes (cxOf (L2.CX P w) P w g.K mg base N nm (defScope st) (g.fa j) cdv A outer s H E) (fun cls d _ H => XkOf g fr E' cls d H) := tk0.imp fun cls d σ H' ⟨x, M', al', h1, h2, h3, h4⟩ => h1 cls d H' al' h2 h3 h4
  have C : Cok g P w mg base lev fr E' N (defScope st) true (cxOf (L2.CX P w) P w g.K mg base N nm (defScope st) (g.fa j) cdv A outer s H E) :=
    ⟨S.nd, S.kind, rfl, rfl, rfl, rfl, rfl, rfl, rfl, hr, rfl, tk, passes_call tk fun _ _ _ _ h => h, fun _ => passes_of rfl, fun _ _ => rfl⟩
  refine ⟨_, hw C, fun _ => none, al, startR N ds, M, start_ok (fr := fr) hP ms rs, ws_mono body (hs ds M _ _ (by rw [← rs.length]; exact hl) run) (Le.refl _) ⟨fun r M' h σ' H' O' al' p s' => ?_, fun d M' h v H' al' gr ms' rv => h v H' al' gr ms' rv, fun _ _ h => h.elim, fun _ _ h => h.elim⟩⟩
  exact h .non H' al' s'.env.gr (s'.env.ms.weak fun b hb => .inl hb) rfl
end
end PV

set_option Elab.async false
set_option linter.all false
set_option maxRecDepth 100000
set_option maxHeartbeats 4000000
/-! PV part 14: keywords, a local name called, slices turned round, own exceptions made. -/
namespace PV
open PySem PySem.Spec PyProof.Rows L2

/-! ### f(k = v, ..) -/
def permV (ks : List Nat) (vs : List V) : List V := ks.map fun k => vs.getD k .non
theorem Reps.perm {g : GC} {al : List Addr} {Hm : Hp} {ds : List D} {vs : List V} (h : Reps g al Hm ds vs) : ∀ ks : List Nat, Reps g al Hm (perm ks ds) (permV ks vs)
  | [] => rfl
  | k :: ks => by
    refine ⟨vs.getD k .non, permV ks vs, rfl, ?_, h.perm ks⟩
    cases e : ds[k]? with
    | none =>
      have : vs[k]? = none := by
        rw [List.getElem?_eq_none_iff] at e ⊢
        rw [h.length]; exact e
      show Rep g al Hm (ds.getD k .non) (vs.getD k .non)
      rw [List.getD_eq_getElem?_getD, List.getD_eq_getElem?_getD, e, this]
      exact rfl
    | some d =>
      obtain ⟨v, h1, h2⟩ := h.get e
      show Rep g al Hm (ds.getD k .non) (vs.getD k .non)
      rw [List.getD_eq_getElem?_getD, List.getD_eq_getElem?_getD, e, h1]
      exact h2
theorem vals_perm {vs : List V} {us : List Value} (h : Vals vs us) : ∀ ks : List Nat, Vals (permV ks vs) (ks.map fun k => us.getD k .none)
  | [] => .nil
  | k :: ks => by
    refine .cons ?_ (vals_perm h ks)
    show RelV (vs.getD k .non) (us.getD k .none)
    rw [List.getD_eq_getElem?_getD, List.getD_eq_getElem?_getD]
    cases e : vs[k]? with
    | none =>
      have : us[k]? = none := by
        rw [List.getElem?_eq_none_iff] at e ⊢
        rw [← h.length]; exact e
      rw [this]; exact rfl
    | some v =>
      obtain ⟨u, h1, h2⟩ := h.get e
      rw [h1]; exact h2
section
variable {X : Cx} {CX : CXT} {k : Nat} {f : Addr} {fd : FuncData} {ps ks : List Str} {sp : Sp} {E : XK} {x : Str} {p pos : Pos} {kws : List Keyword} {tk : TA} {gV : List V → List V} {gU : List Value → List Value}
theorem pe_kw0 (F : FnOk X.prog X.w X.K X.mg X.base CX k f fd ps sp) (hr : Room k X.A) (hg : Gl X x) (hm : X.mg x = some (.ref f)) (hk : PySem.W.keepIn X.K (.ref f) = true) (hb : KBn X.K fd ps 0 ks (fun _ ws => gU ws) (fun _ zs => gV zs)) (hx : Passes CX X E) (hkw : PK X kws tk)
    (hall : (backToKw pos (keywordEach kws X.env)).all (·.1.isSome) = true) (hks : (backToKw pos (keywordEach kws X.env)).filterMap (·.1) = ks) (hdb : (x == ("__debug__" : Str)) = false)
    (hpl : ((backTo pos (starEach [] X.env)).any (·.1) || (backToKw pos (keywordEach kws X.env)).any (·.1.isNone)) = false) : PE X (.Call (.Name x p) [] kws pos) (fun σ H Q => tk σ H fun zs H1 => zs.length = ks.length ∧ sp (gV zs) H1 Q E) := by
  refine ⟨fun pins s σ H Q I h => wpAny_Call_Name_kw (ld_glob I hg hm ?_ hdb)⟩
  refine PySem.W.callWith_KW0 (h₀ := X.base) I.ok.mod.kin hk hall (thn (hkw.run pos pins s σ H _ I h) fun ws s1 ⟨zs, H1, I1, rz, q1⟩ => ⟨I1.kIn, ?_⟩) hpl
  rw [hks]
  exact run_fnN (us := []) (vs := []) F hr hb hx I1 .nil rz rfl q1.1 q1.2
end
section
variable {g : GC} {m : Sm} {P : Program} {w : World} {mg : Str → Option Value} {base : Heap} {k : Nat} {fr : Fm} {E : Ex} {N : List Str} {sc : Scope} {fc : Bool} {X : Cx}
variable {a b c e : Expr} {xa xb xc x : PV.X} {sa sb : S} {st : Stmt} {pos p1 p2 p3 : Pos} {nm : Str}
theorem _root_.L2.PK.imp {X : Cx} {kws : List Keyword} {t t' : TA} (h : PK X kws t) (k : ∀ σ H Q, t' σ H Q → t σ H Q) : PK X kws t' := ⟨fun pos pins s σ H Q I q => h.run pos pins s σ H Q I (k _ _ _ q)⟩
theorem k_nil : PK X [] (rdl g m fr E .nil) := pk_nil.imp fun σ H Q ⟨B, O, al, r, M, s, q⟩ => (show PostL g (hid B O) al H Q [] M from q) [] H al (Grow.refl _ _) s.at.ms rfl
theorem k_cons {n : Option Str} {kws : List Keyword} (ha : PE X a (rd g m fr E xa)) (hr : PK X kws (rdl g m fr E x)) : PK X (⟨n, a, p1⟩ :: kws) (rdl g m fr E (.cons xa x)) :=
  (pk_cons ha hr).imp fun σ H Q ⟨B, O, al, r, M, s, q⟩ => ⟨B, O, al, r, M, s, wx_mono xa q (Le.refl _) fun d M1 kk v H1 al1 g1 m1 r1 =>
    ⟨B, O, al1, r, M1, s.grow g1 m1, wl_mono x kk (Le.refl _) fun ds M2 k2 vs H2 al2 g2 m2 r2 => k2 (v :: vs) H2 al2 (g1.trans g2) m2 ⟨v, vs, rfl, r1.mono (g2.msk _) g2.pre, r2⟩⟩⟩
theorem n_callk (C : Cok g P w mg base k fr E N sc fc X) {lev j : Nat} {st : Stmt} {ps ks : List Str} {kws : List Keyword} {pm : List Nat} (F : Fct g m P w mg base lev j nm st ps) (hl : (glB sc nm && decide (lev ≤ k)) = true) (hn : pm.length = ps.length)
    (hbd : ∀ (kV doc pmv : Value) (an : Option Addr) (cdv ct : Value) (ws : List Value), ws.length = ks.length → bindArgs (PySem.W.fnOf nm nm (defArgs st) (defBody st) (defScope st) .none kV doc pmv an cdv ct) ⟨[], ks.zip ws⟩ = pure (ps.zip (pm.map fun k => ws.getD k .none)))
    (hks' : xlen x = some ks.length) (hall : (backToKw pos (keywordEach kws X.env)).all (·.1.isSome) = true) (hks : (backToKw pos (keywordEach kws X.env)).filterMap (·.1) = ks)
    (hpl : ((backTo pos (starEach [] X.env)).any (·.1) || (backToKw pos (keywordEach kws X.env)).any (·.1.isNone)) = false) (ha : PK X kws (rdl g m fr E x)) : PE X (.Call (.Name nm p1) [] kws pos) (rd g m fr E (.callk j x pm)) := by
  rw [Bool.and_eq_true, decide_eq_true_eq] at hl
  obtain ⟨fd, F1, F2, F3⟩ := F.ex
  have e1 := C.eP
  have e2 := C.eW
  have e3 := C.eM
  have e4 := C.eB
  have e5 := C.K
  subst e1 e2 e3 e4
  obtain ⟨oc, od, dV, kV, doc, pmv, an, cdv, ct, osl, rfl, lk, hcd, hD, hK⟩ := F2.ex
  have dn : dV = .none := by
    rcases hD with ⟨_, h⟩ | ⟨h, _⟩
    · exact h
    · exact absurd rfl h
  subst dn
  have kb : KBn X.K (PySem.W.fnOf nm nm (defArgs st) (defBody st) (defScope st) .none kV doc pmv an cdv ct) ps 0 ks (fun _ ws => (pm.map fun k => ws.getD k .none)) (fun _ zs => permV pm zs) := by
    refine ⟨fun s us ws KI h0 hl2 => ?_, fun _ r2 => vals_perm r2 pm⟩
    rw [List.length_eq_zero_iff.mp h0]
    exact .of_eq (hbd kV doc pmv an cdv ct ws hl2)
  exact (pe_kw0 (e5 ▸ F1) (C.room.mono hl.2) (C.gl hl.1) F.mgf (e5 ▸ F.kp) kb C.px ha hall hks (glB_d hl.1) hpl).imp fun σ H Q ⟨B, O, al, r, M, s, q⟩ => by
    have q := wl_len x hks' (show wl m x E r M fun ds M' => (m.fn j).run (perm pm ds) M' (Post g (hid B O) al H Q) E from q)
    refine rdl_of s q fun ds M1 vs H1 al1 ⟨q0, q1⟩ g1 s1 r1 => ⟨by rw [r1.length]; exact q0, ?_⟩
    exact call_ok s1 (by unfold permV; rw [List.length_map]; exact hn) (r1.perm pm) ((m.fn j).mono q1 (fun _ _ h => h.tail g1) (Le.refl _))
/-! ### a local name called -/
/-- the functions that may be handed on -/
def HeldF (g : GC) (m : Sm) (P : Program) (w : World) (mg : Str → Option Value) (base : Heap) (k : Nat) : Prop := ∀ j n, m.held j = some n → ∃ lev nm st ps, lev ≤ k ∧ ps.length = n ∧ Fct g m P w mg base lev j nm st ps
theorem n_callv (C : Cok g P w mg base k fr E N sc fc X) {i : Nat} {es : List Expr} (A : HeldF g m P w mg base k) (h : nmB N sc i nm = true) (he : starEach (a :: es) X.env = (false, eval a X.env) :: starEach es X.env) (hpl : (backTo pos (starEach es X.env)).any (·.1) = false)
    (ha : PA X (a :: es) (rdl g m fr E x)) : PE X (.Call (.Name nm p1) (a :: es) [] pos) (rd g m fr E (.callv i x)) := by
  refine ⟨fun pins s σ H Q I ⟨B, O, al, r, M, st, q⟩ => ?_⟩
  obtain ⟨d, hd, q⟩ := val_el q
  cases d <;> first | exact (show False from q).elim | skip
  rename_i f
  have q : (m.held f).isSome = true ∧ wl m x E r M fun ds M' => m.held f = some ds.length ∧ (m.fn f).run ds M' (Post g (hid B O) al H Q) E := q
  obtain ⟨hs, q⟩ := q
  obtain ⟨v, hv, rv⟩ := st.val hd
  cases (show v = .ref (g.fa f) from rv)
  unfold nmB at h
  simp only [Bool.and_eq_true, decide_eq_true_eq, Bool.not_eq_true'] at h
  obtain ⟨h1, h2, h3, h4⟩ := h
  have vis : Vis X.env.scope nm := by
    show X.env.scope.names.lookup nm = _ ∨ X.env.scope.names.lookup nm = _ ∨ X.env.scope.names.lookup nm = _
    rw [C.eS]
    exact visB_ok h2
  cases hh : m.held f with
  | none => rw [hh] at hs; cases hs
  | some n =>
    obtain ⟨lev, nm', st', ps, hlv, hln, F⟩ := A f n hh
    obtain ⟨fd, F1, F2, F3⟩ := F.ex
    have e1 := C.eP
    have e2 := C.eW
    have e3 := C.eM
    have e4 := C.eB
    have e5 := C.K
    subst e1 e2 e3 e4
    refine (pe_callL (i := i) (e5 ▸ F1) (C.room.mono hlv) (by rw [C.eN]; exact h1) vis (e5 ▸ F.kp) (e5 ▸ F3) .nil C.px ha h3 h4 he hpl).run pins s σ H Q I ⟨hv, ?_⟩
    refine rdl_of st q fun ds M1 vs H1 al1 q1 g1 s1 r1 => ?_
    rw [List.append_nil]
    obtain ⟨q0, q1⟩ := q1
    rw [hh] at q0
    cases q0
    exact call_ok s1 (by rw [r1.length, ← hln]) r1 ((m.fn f).mono q1 (fun _ _ h => h.tail g1) (Le.refl _))
/-! ### a[::-1] -/
theorem sliceApplied_back {prog : Program} {w : World} {A : Around} {EE : Value → Shared → Prop} {s : Shared} {sl : Addr} {tk : Tok} {n : Nat} {Q : Int × Int × Nat → Shared → Prop} (hs : s.heap.IsSliceOf sl .none .none (.int (-1) tk)) (h : Q ((n : Int) - 1, -1, n) s) :
    wpAny (model prog w) A (Builtin.Slice.sliceApplied (.ref sl) (pure (n : Int))) Q EE s := by
  obtain ⟨os, hos, hcs, hds⟩ := id hs
  unfold Builtin.Slice.sliceApplied Builtin.Slice.sliceFields
  refine wpAny_bind (wpAny_bind (wpAny_field hos hds (x := .none) rfl (wpAny_bind (wpAny_field hos hds (x := .none) rfl (wpAny_bind (wpAny_field hos hds (x := .int (-1) tk) rfl (wpAny_pure ?_)))))))
  refine wpAny_bind (slicePart_int ?_)
  show wpAny _ _ (if ((-1 : Int) == 0) = true then _ else _) _ _ s
  rw [if_neg (by decide)]
  refine wpAny_bind (slicePart_none (wpAny_bind (slicePart_none (wpAny_bind (wpAny_pure ?_)))))
  have e : Builtin.Slice.sliceAdjust none none (-1) (n : Int) = ((n : Int) - 1, -1) := rfl
  show wpAny _ _ (match Builtin.Slice.sliceAdjust none none (-1) (n : Int) with | (lo, hi) => pure (lo, (-1 : Int), Builtin.Slice.slicePlaces lo hi (-1))) _ _ s
  rw [e]
  have e2 : Builtin.Slice.slicePlaces ((n : Int) - 1) (-1) (-1) = n := by
    unfold Builtin.Slice.slicePlaces
    have h1 : ¬ ((-1 : Int) > 0) := by decide
    rw [if_neg h1]
    have e3 : (- -1 : Int) = 1 := by decide
    rw [e3, Int.ediv_one]
    by_cases h0 : (n : Int) - 1 > -1
    · rw [if_pos h0]; omega
    · rw [if_neg h0]; omega
  show wpAny _ _ (pure ((n : Int) - 1, (-1 : Int), Builtin.Slice.slicePlaces ((n : Int) - 1) (-1) (-1))) _ _ s
  rw [e2]
  exact wpAny_pure h
theorem pick_back (xs : Array Value) : ((List.range xs.size).filterMap fun (m : Nat) => xs[((xs.size : Int) - 1 + (m : Int) * -1).toNat]?).toArray = xs.toList.reverse.toArray := by
  have e : (fun (m : Nat) => xs[((xs.size : Int) - 1 + (m : Int) * -1).toNat]?) = (fun i => xs[i]?) ∘ fun m : Nat => ((xs.size : Int) - 1 + (m : Int) * -1).toNat := rfl
  rw [e, ← List.filterMap_map]
  have e2 : (List.range xs.size).map (fun m : Nat => ((xs.size : Int) - 1 + (m : Int) * -1).toNat) = (List.range xs.size).reverse := by
    rw [← PySem.W.krv_range]
    apply List.map_congr_left
    intro k hk
    have := List.mem_range.mp hk
    omega
  rw [e2, List.filterMap_reverse, PySem.W.krv_all]
theorem getItem_tup_back {prog : Program} {w : World} {A : Around} {EE : Value → Shared → Prop} {s : Shared} {t sl : Addr} {items : Array Value} {tk : Tok} {Q : Value → Shared → Prop} (ht : IsTup s.heap t items) (hs : s.heap.IsSliceOf sl .none .none (.int (-1) tk))
    (h : Q (.ref s.heap.objs.size) { s with heap := s.heap.push { cls := .type "tuple", data := .seq items.toList.reverse.toArray } }) (hsz : items.size ≤ sizeLine) : wpAny (model prog w) A (getItem (.ref t) (.ref sl)) Q EE s := by
  obtain ⟨os, hos, hcs, hds⟩ := id hs
  have hTs : s.TypeIs (.ref sl) "slice" := ⟨os, hos, hcs⟩
  have fits : sizeOk (.seq items.toList.reverse.toArray) := by
    show items.toList.reverse.toArray.size ≤ sizeLine
    simpa using hsz
  unfold getItem
  try with_reducible refine wpAny_holding ?_
  first | refine wpAny_bind (wpAny_pure ?_) | skip
  refine wpAny_bind (wpAny_sequenceKey ht.typeIs (by decide) ?_)
  refine wpAny_bind (wpAny_callSpecial?_slot (name := Str.ofString "__getitem__") ht.typeIs PyProof.Rows.slot_tuple_getitem (wpAny_call_entry PyProof.Rows.slot_tuple_getitem ht.typeIs entry_tuple_getitem ?_ (args_tuple_getitem _ _)))
  show wpAny _ _ (Builtin.Tuple.tupleItemsOf (.ref t) >>= _) _ _ s
  refine wpAny_bind (tupleItemsOf_ ht (wpAny_bind (wpAny_typeOf hTs ?_)))
  rw [if_pos (by decide)]
  refine wpAny_bind (sliceApplied_back hs ?_)
  have hno : ¬ ((((items.size : Int) - 1) == 0 && (-1 : Int) == 1 && items.size == items.size) = true) := by
    intro q
    rw [Bool.and_eq_true, Bool.and_eq_true] at q
    exact absurd q.1.2 (by decide)
  show wpAny _ _ (if (((items.size : Int) - 1) == 0 && (-1 : Int) == 1 && items.size == items.size) = true then _ else _) _ _ s
  rw [if_neg hno, pick_back]
  first
    | exact wpAny_bind (m := Builtin.Tuple.tupleExact _) (wpAny_newObj_type (wpAny_pure ⟨_, rfl, wpAny_pure h⟩) fits)
    | exact wpAny_bind (m := Builtin.Tuple.tupleExact _) (wpAny_newObj_type (wpAny_bind (wpAny_pure (wpAny_pure ⟨_, rfl, wpAny_pure h⟩))) fits)
    | exact wpAny_bind (wpAny_bind (m := Builtin.Tuple.tupleExact _) (wpAny_newObj_type (wpAny_pure (wpAny_pure ⟨_, rfl, wpAny_pure h⟩)) fits))
    | exact wpAny_bind (wpAny_bind (m := Builtin.Tuple.tupleExact _) (wpAny_newObj_type (wpAny_pure ⟨_, rfl, wpAny_pure h⟩) fits))
def rRev (K : PySem.W.Frag) : V → Hp → VK → Prop := fun x H Q => (∃ a xs, x = .ref a ∧ SqL K H a xs ∧ ∀ p, H p = none → Q (.ref p) (upd H p (.lst xs.reverse))) ∨ ∃ a xs, x = .ref a ∧ SqT K H a xs ∧ ∀ p, H p = none → Q (.ref p) (upd H p (.tup xs.reverse))
theorem pe_back {te : TE} {j : Nat} {q1 q2 q3 q4 : Pos} (he : PE X e te) : PE X (.Subscript e (.Slice none none (some (.UnaryOp .USub (.Constant (.int 1) j q1) q2)) q3) q4) (fun σ H Q => te σ H fun x H1 => rRev X.K x H1 Q) := by
  refine ⟨fun pins s σ H Q I h => Subscript_ (thn (he.run pins s σ H _ I h) fun v s1 ⟨x, H1, I1, r1, hq⟩ => ?_)⟩
  have part : PO X (some (.UnaryOp .USub (.Constant (.int 1) j q1) q2)) (tPart (tUn (rU fun i => .int (-i)) (tC (.int 1)))) := po_some (pe_un un_neg pe_int)
  refine wpAny_Slice (thn (po_none.run pins s1 σ H1 (fun o H2 => o = none ∧ H2 = H1) I1 ⟨rfl, rfl⟩) fun vl s2 ⟨l, H2, I2, pl, hl, hH⟩ => ?_)
  subst hl hH
  refine thn (po_none.run pins s2 σ H2 (fun o H3 => o = none ∧ H3 = H2) I2 ⟨rfl, rfl⟩) fun vu s3 ⟨u, H3, I3, pu, hu, hH⟩ => ?_
  subst hu hH
  refine thn (part.run pins s3 σ H3 (fun o H4 => o = some (-1) ∧ H4 = H3) I3 ⟨1, rfl, -1, rfl, rfl, rfl⟩) fun vs s4 ⟨o, H4, I4, ps, ho, hH⟩ => ?_
  subst ho hH
  cases pl
  cases pu
  obtain ⟨tk, rfl⟩ : ∃ tk, vs = .int (-1) tk := by
    cases ps with
    | int i t => exact ⟨t, rfl⟩
  have J : L2.Inv X pins σ H4 { s4 with heap := s4.heap.push { cls := .type "slice", data := .fields #[.none, .none, .int (-1) tk] } } := I4.kept (t' := s4.toks) fun b ob z => Heap.get?_push_of_some _ z
  rcases hq with ⟨a, xs, rfl, hx, q⟩ | ⟨a, xs, rfl, hx, q⟩
  · cases r1
    obtain ⟨its, r, ht, hz⟩ := J.list hx
    have hlen := r.length
    show wpAny (model X.prog X.w) X.A (subscriptTail e (.Slice none none (some (.UnaryOp .USub (.Constant (.int 1) j q1) q2)) q3) (.ref a) (.ref s4.heap.objs.size)) (EP X pins σ Q) X.xe _
    refine tail_any (ops := [.ref a, .ref s4.heap.objs.size]) ht.isList.typeIs (PySem.slot_list_getitem.lookup) ?_ (by with_unfolding_all rfl)
    refine wpAny_getItem_list_slice ht.isList (Heap.IsSliceOf.new _ .none .none _) .none .none (.int _ _) (by decide) ?_ (by rw [List.size_toArray]; omega)
    rw [PySem.W.krv_pick]
    refine ⟨.ref _, _, J.laid (t' := s4.toks) (o := .lst xs.reverse) (fun b ob z => Heap.get?_push_of_some _ z) (Nat.le_refl _) ?_, rfl, q _ (J.hok.fresh (Nat.le_refl _))⟩
    exact ⟨by rw [List.length_reverse]; exact hz, _, 0, r.reverse, Heap.get?_push_size _ rfl⟩
  · cases r1
    obtain ⟨its, r, ht, hz⟩ := J.tuple hx
    have hlen := r.length
    show wpAny (model X.prog X.w) X.A (subscriptTail e (.Slice none none (some (.UnaryOp .USub (.Constant (.int 1) j q1) q2)) q3) (.ref a) (.ref s4.heap.objs.size)) (EP X pins σ Q) X.xe _
    refine tail_any (ops := [.ref a, .ref s4.heap.objs.size]) ht.typeIs (PyProof.Rows.slot_tuple_getitem.lookup) ?_ (by with_unfolding_all rfl)
    refine getItem_tup_back ht (Heap.IsSliceOf.new _ .none .none _) ?_ (by rw [List.size_toArray]; omega)
    refine ⟨.ref _, _, J.laid (t' := s4.toks) (o := .tup xs.reverse) (fun b ob z => Heap.get?_push_of_some _ z) (Nat.le_refl _) ?_, rfl, q _ (J.hok.fresh (Nat.le_refl _))⟩
    exact ⟨by rw [List.length_reverse]; exact hz, _, r.reverse, IsTup.new _ _⟩
theorem n_rev (C : Cok g P w mg base k fr E N sc fc X) {j : Nat} {q1 q2 q3 q4 : Pos} (ha : PE X a (rdo g m fr E xa)) : PE X (.Subscript a (.Slice none none (some (.UnaryOp .USub (.Constant (.int 1) j q1) q2)) q3) q4) (rd g m fr E (.p1 .rev xa)) :=
  (pe_back ha).imp fun σ H Q ⟨B, O, al, r, M, s, q⟩ => rdo_of s q fun d M1 v H1 al1 q1 g1 s1 r1 => by
    rw [C.K]
    by_cases ht : ∃ es, d = .tup es
    · obtain ⟨es, rfl⟩ := ht
      have q1 : Post g (hid B O) al H Q (.tup es.reverse) M1 := q1
      obtain ⟨a, vs, rfl, h2, h3⟩ := repO_tup r1
      exact .inr ⟨a, vs, rfl, sqT_mono hp_same h2, (q1.tail g1).tup s1.at h3.reverse⟩
    · have q1 : opt (sqL M1 d) fun ds => Post g (hid B O) al H Q (.lst ds.reverse) M1 := by
        cases d <;> first | exact q1 | exact absurd ⟨_, rfl⟩ ht
      obtain ⟨ds, hs, q1⟩ := opt_iff.mp q1
      obtain ⟨a, vs, rfl, h1, h2⟩ := seqL s1.at r1 hs
      exact .inl ⟨a, vs, rfl, h1, (q1.tail g1).lst s1.at h2.reverse⟩
/-! ### own exceptions -/
structure ExF (g : GC) (mg : Str → Option Value) (n : Nat) (nm : Str) : Prop where
  ex : PySem.W.excIn g.K (g.ec n) He.veBase "ValueError.__new__" = true
  kp : PySem.W.keepIn g.K (.ref (g.ec n)) = true
  sb : PySem.W.subIn g.K (.ref (g.ec n)) (.type "BaseException") = some true
  ty : PySem.W.typeIn g.K (.ref (g.ec n)) = some (.type "type")
  mgf : mg nm = some (.ref (g.ec n))
theorem ExF.mk_ (C : Cok g P w mg base k fr E N sc fc X) {n : Nat} {msg : Str} {j : Nat} (F : ExF g mg n nm) (h : glB sc nm = true) : PMk X (.Call (.Name nm p1) [.Constant (.str msg) j p2] [] p3) fun _ H Q => Q (.ref (g.ec n)) none H := by
  have e5 := C.K
  exact pmk_own PySem.F.excBase_ValueError (e5 ▸ F.ex) (C.mgn F.mgf) (e5 ▸ F.kp) (raises_own (e5 ▸ F.sb) (e5 ▸ F.ty)) (C.gl h) (glB_d h)
end
end PV

set_option Elab.async false
set_option linter.all false
set_option maxRecDepth 100000
set_option maxHeartbeats 4000000
/-! PV part 15: the shared dict and its lists. -/
namespace PV
open PySem PySem.Spec PyProof.Rows L2

section
variable {g : GC} {P : Addr → Prop} {al al' : List Addr} {H H' : Hp} {M M' : Ms}
theorem hp_sh {p : Addr} {o : HO} (h : p ∈ al) : hp P al (L2.upd H p o) = hp P al H := by
  funext b
  show msk _ _ b = msk _ _ b
  by_cases e : P b ∨ b ∈ al
  · unfold msk; rw [if_pos e, if_pos e]
  · rw [msk_of e, msk_of e, upd_ne fun z => e (.inr (by rw [z]; exact h))]
theorem Grow.sh {p : Addr} {o : HO} (h : p ∈ al) : Grow al H al (L2.upd H p o) :=
  ⟨List.prefix_refl _, fun b u e n => by rw [upd_ne fun z => n (by rw [z]; exact h)]; exact e, fun b h n => absurd h n⟩
theorem nodup_at {l : List Addr} (h : l.Nodup) {i j : Nat} {a : Addr} (hi : l[i]? = some a) (hj : l[j]? = some a) : i = j := by
  obtain ⟨h1, e1⟩ := List.getElem?_eq_some_iff.mp hi
  obtain ⟨h2, e2⟩ := List.getElem?_eq_some_iff.mp hj
  exact (List.getElem_inj h).mp (e1.trans e2.symm)
/-- a shared object changes -/
theorem MsOk.write (x : MsOk g al (hp P al H) H M) {j : Nat} {a : Addr} {o : HO} {mo : MO} (ha : al[j]? = some a) (hm : MoOk g al (hp P al H) (L2.upd H a o) a mo) : MsOk g al (hp P al (L2.upd H a o)) (L2.upd H a o) (M.set j mo) := by
  rw [hp_sh (List.mem_of_getElem? ha)]
  refine ⟨by rw [x.len, List.length_set], x.nd, fun k b m h1 h2 => ?_⟩
  by_cases e : j = k
  · subst e
    rw [ha] at h1
    cases h1
    have hl : j < M.length := by rw [← x.len]; exact (List.getElem?_eq_some_iff.mp ha).1
    rw [List.getElem?_set_self hl] at h2
    cases h2
    exact hm
  · rw [List.getElem?_set_ne e] at h2
    exact (x.at_ k b m h1 h2).mono (Same.refl _) (List.prefix_refl _) (upd_ne fun z => e (nodup_at x.nd ha (by rw [← z]; exact h1)))
/-- one more shared object -/
theorem MsOk.snoc {Hm Hm' : Hp} (x : MsOk g al Hm H M) {p : Addr} {mo : MO} (hp' : p ∉ al) (s : Same Hm Hm') (hk : ∀ b ∈ al, H' b = H b) (hm : MoOk g (al ++ [p]) Hm' H' p mo) : MsOk g (al ++ [p]) Hm' H' (M ++ [mo]) := by
  refine ⟨by simp [x.len], ?_, fun k b m h1 h2 => ?_⟩
  · rw [List.nodup_append]
    refine ⟨x.nd, by simp, fun a ha b hb => ?_⟩
    simp only [List.mem_singleton] at hb
    subst hb
    exact fun z => hp' (by rw [← z]; exact ha)
  · by_cases hl : k < al.length
    · rw [List.getElem?_append_left hl] at h1
      rw [List.getElem?_append_left (by rw [← x.len]; exact hl)] at h2
      exact (x.at_ k b m h1 h2).mono s (List.prefix_append _ _) (hk b (List.mem_of_getElem? h1))
    · have e : k = al.length := by
        have := (List.getElem?_eq_some_iff.mp h1).1
        simp at this; omega
      subst e
      rw [List.getElem?_append_right (Nat.le_refl _)] at h1
      rw [List.getElem?_append_right (by rw [x.len]; exact Nat.le_refl _)] at h2
      simp only [x.len, Nat.sub_self, List.getElem?_cons_zero, Option.some.injEq] at h1 h2
      subst h1 h2
      exact hm
theorem FsOk.get {Hm : Hp} {n : Str} {d : D} : ∀ {fs : List (Str × D)} {kvs : List (Key × V)}, FsOk g al Hm fs kvs → fget fs n = some d → ∃ v, valV kvs (Sum.inr n) = some v ∧ Rep g al Hm d v
  | [], _, _, e => by cases e
  | (k, d0) :: fs, _, h, e => by
    obtain ⟨v, r, rfl, h2, h3⟩ := h
    have e : (if k = n then some d0 else fget fs n) = some d := e
    unfold valV
    rw [List.find?_cons]
    by_cases hk : k = n
    · subst hk
      rw [if_pos rfl] at e
      cases e
      rw [decide_eq_true (rfl : (Sum.inr k : Key) = Sum.inr k)]
      exact ⟨v, rfl, h2⟩
    · rw [if_neg hk] at e
      rw [decide_eq_false (fun z : (Sum.inr k : Key) = Sum.inr n => hk (Sum.inr.inj z))]
      exact FsOk.get h3 e
theorem FsOk.len {Hm : Hp} : ∀ {fs : List (Str × D)} {kvs : List (Key × V)}, FsOk g al Hm fs kvs → kvs.length = fs.length
  | [], _, h => by cases (show _ = [] from h); rfl
  | (k, d0) :: fs, _, h => by
    obtain ⟨v, r, rfl, h2, h3⟩ := h
    simp [h3.len]
theorem map_put {kvs : List (Key × V)} {k : Key} {v : V} (h : (valV kvs k).isSome = true) : putK kvs k v = kvs.map (fun kv => if kv.1 = k then (kv.1, v) else kv) := by
  unfold putK
  rw [if_pos]
  rw [List.any_eq_true]
  unfold valV at h
  rw [Option.isSome_map] at h
  obtain ⟨x, hx⟩ := Option.isSome_iff_exists.mp h
  have h1 := List.find?_some hx
  exact ⟨x, List.mem_of_find?_eq_some hx, h1⟩
theorem FsOk.set {Hm : Hp} {n : Str} {d : D} {v : V} (hv : Rep g al Hm d v) : ∀ {fs : List (Str × D)} {kvs : List (Key × V)}, FsOk g al Hm fs kvs → (fs.map (·.1)).Nodup → FsOk g al Hm (fset fs n d) (kvs.map fun kv => if kv.1 = Sum.inr n then (kv.1, v) else kv)
  | [], _, h, _ => by cases (show _ = [] from h); exact rfl
  | (k, d0) :: fs, _, h, nd => by
    obtain ⟨u, r, rfl, h2, h3⟩ := h
    have nd : (k :: fs.map (·.1)).Nodup := nd
    obtain ⟨n1, n2⟩ := List.nodup_cons.mp nd
    show FsOk g al Hm (if k = n then (k, d) :: fs else (k, d0) :: fset fs n d) _
    by_cases hk : k = n
    · subst hk
      rw [if_pos rfl, List.map_cons, if_pos rfl]
      refine ⟨v, _, rfl, hv, ?_⟩
      have key : ∀ {fs : List (Str × D)} {r : List (Key × V)}, FsOk g al Hm fs r → k ∉ fs.map (·.1) → r.map (fun kv => if kv.1 = Sum.inr k then (kv.1, v) else kv) = r := by
        intro fs
        induction fs with
        | nil => intro r h _; cases (show r = [] from h); rfl
        | cons q fs ih =>
          intro r h hn
          obtain ⟨q1, q2⟩ := q
          obtain ⟨u', r', rfl, h4, h5⟩ := h
          rw [List.map_cons, ih h5 (fun z => hn (List.mem_cons_of_mem _ z)), if_neg]
          intro z
          exact hn (by rw [← Sum.inr.inj z]; simp)
      rw [key h3 n1]
      exact h3
    · rw [if_neg hk, List.map_cons, if_neg (fun z => hk (Sum.inr.inj z))]
      exact ⟨u, _, rfl, h2, FsOk.set hv h3 n2⟩
end
section
variable {g : GC} {m : Sm} {P : Program} {w : World} {mg : Str → Option Value} {base : Heap} {k : Nat} {fr : Fm} {E : Ex} {N : List Str} {sc : Scope} {fc : Bool} {X : Cx} {B : Addr → Prop} {O : Ow} {al : List Addr} {σ : L2.St} {H : Hp} {r : Ro} {M : Ms}
variable {a b c e : Expr} {xa xb xc x : PV.X} {sa sb : S} {st : Stmt} {pos p1 p2 p3 : Pos} {nm : Str}
theorem dct_at (s : Sta g fr B O al σ H r M) {d : D} {q : Nat × List (Str × D)} {v : V} (h : dctM M d = some q) (hr : Rep g al (hp (hid B O) al H) d v) : ∃ a kvs, v = .ref a ∧ al[q.1]? = some a ∧ M[q.1]? = some (.dct q.2) ∧ H a = some (.dK kvs) ∧ FsOk g al (hp (hid B O) al H) q.2 kvs := by
  cases d <;> first | (cases h; done) | skip
  rename_i n
  obtain ⟨a, h1, rfl⟩ := hr
  have h : (match M[n]? with
    | some (.dct fs) => some (n, fs)
    | _ => none) = some q := h
  cases hm : M[n]? with
  | none => rw [hm] at h; cases h
  | some mo =>
    rw [hm] at h
    cases mo <;> first | (cases h; done) | skip
    cases h
    obtain ⟨kvs, h3, h4⟩ := s.at.ms.at_ n a _ h1 hm
    exact ⟨a, kvs, rfl, h1, hm, h3, h4⟩
theorem lst_at (s : Sta g fr B O al σ H r M) {d : D} {q : Nat × List D} {v : V} (h : lstM M d = some q) (hr : Rep g al (hp (hid B O) al H) d v) : ∃ a vs, v = .ref a ∧ al[q.1]? = some a ∧ M[q.1]? = some (.lst q.2) ∧ H a = some (.lst vs) ∧ Reps g al (hp (hid B O) al H) q.2 vs := by
  cases d <;> first | (cases h; done) | skip
  rename_i n
  obtain ⟨a, h1, rfl⟩ := hr
  have h : (match M[n]? with
    | some (.lst fs) => some (n, fs)
    | _ => none) = some q := h
  cases hm : M[n]? with
  | none => rw [hm] at h; cases h
  | some mo =>
    rw [hm] at h
    cases mo <;> first | (cases h; done) | skip
    cases h
    obtain ⟨kvs, h3, h4⟩ := s.at.ms.at_ n a _ h1 hm
    exact ⟨a, kvs, rfl, h1, hm, h3, h4⟩
/-- state['key'] -/
theorem get_of (s : Sta g fr B O al σ H r M) {i : Nat} {key : Str} {Kq : D → Prop} {R : V → Hp → Prop} (q : val r i fun d => opt (dctM M d) fun q => opt (fget q.2 key) Kq) (hk : ∀ d v, Kq d → Rep g al (hp (hid B O) al H) d v → R v H) : tDGet (tVar i) (tC (.str key)) σ H R := by
  obtain ⟨d, hd, q⟩ := val_el q
  obtain ⟨z, hz, q⟩ := opt_iff.mp q
  obtain ⟨e, he, q⟩ := opt_iff.mp q
  obtain ⟨v, hv, rv⟩ := s.val hd
  obtain ⟨a, kvs, rfl, h1, h2, h3, h4⟩ := dct_at s hz rv
  obtain ⟨u, hu, ru⟩ := h4.get he
  exact ⟨_, hv, a, u, rfl, by rw [← hu]; exact DGet.k (k := Sum.inr key) h3, hk e u q ru⟩
theorem n_dget (C : Cok g P w mg base k fr E N sc fc X) {i j : Nat} {key : Str} (h : nmB N sc i nm = true) : PE X (.Subscript (.Name nm p1) (.Constant (.str key) j p2) pos) (rd g m fr E (.dget i key)) :=
  (pe_dget C.un1 (C.var h) pe_str (fun _ _ => rfl)).imp fun σ H Q ⟨B, O, al, r, M, s, q⟩ => get_of s q fun d v q rv => q v H al (Grow.refl _ _) s.at.ms rv
theorem n_pop0 (C : Cok g P w mg base k fr E N sc fc X) {i j j2 : Nat} {key : Str} {pa pc : Pos} (h : nmB N sc i nm = true) (hbase : attributeBase (.Subscript (.Name nm p1) (.Constant (.str key) j p2) p3) "pop" X.env (eval (.Subscript (.Name nm p1) (.Constant (.str key) j p2) p3) X.env) = eval (.Subscript (.Name nm p1) (.Constant (.str key) j p2) p3) X.env)
    (hline : (pa.endLine == pc.line) = true) : PE X (.Call (.Attribute (.Subscript (.Name nm p1) (.Constant (.str key) j p2) p3) "pop" pa) [.Constant (.int 0) j2 pos] [] pc) (rd g m fr E (.pop0 i key)) :=
  (pe_bm PySem.F.plainAttrs_list PySem.F.slot_list_pop PySem.F.type_list_pop mt_popAt (pe_dget C.un1 (C.var h) pe_str (fun _ _ => rfl)) (pa_cons pe_int pa_nil rfl) hbase rfl hline rfl rfl).imp fun σ H Q ⟨B, O, al, r, M, s, q⟩ => get_of s q fun d v q rv => by
    obtain ⟨t, ht, q⟩ := opt_iff.mp (show opt (lstM M d) _ from q)
    obtain ⟨a, vs, rfl, h1, h2, h3, h4⟩ := lst_at s ht rv
    revert q h4
    cases t2 : t.2 with
    | nil => exact fun q => q.elim
    | cons d0 ds =>
      intro q h4
      obtain ⟨v0, vr, rfl, r1, r2⟩ := h4
      have ha := List.mem_of_getElem? h1
      refine ⟨.inl ⟨rfl, _, SqL.of h3⟩, a, _, 0, 0, v0, rfl, rfl, h3, by decide, by decide, ?_, rfl, ?_⟩
      · unfold seqIndex?
        simp
      · refine q v0 (L2.upd H a (.lst vr)) al (Grow.sh ha) (s.at.ms.write h1 ⟨vr, upd_same, r2⟩) ?_
        rw [hp_sh ha]
        exact r1
theorem ne_empty {ds : List D} : dEqs ds [] = ds.isEmpty := by cases ds <;> rfl
theorem tne_op (s : Sta g fr B O al σ H r M) {i : Nat} {key : Str} {Kq : Bool → Prop} {R : VK} (q : val r i fun d => opt (dctM M d) fun q => opt (fget q.2 key) fun e => opt (lstM M e) fun t => dOks t.2 = true ∧ dDeps t.2 ≤ 50 ∧ Kq (!t.2.isEmpty)) (hk : ∀ b H' , Kq b → Grow al H al H' → Sta g fr B O al σ H' r M → R (.bl b) H') (hK : X.K = g.K) :
    tOp (r2 X.K .ne) (tDGet (tVar i) (tC (.str key))) (tLst tNil) σ H R := get_of s q fun d v q rv => by
  obtain ⟨t, ht, q⟩ := opt_iff.mp q
  obtain ⟨a, vs, rfl, h1, h2, h3, h4⟩ := lst_at s ht rv
  obtain ⟨q1, q2, q3⟩ := q
  refine ⟨by rw [sizeLine_eq]; simp, fun p hn => ?_⟩
  have s1 := s.new (o := .lst []) hn
  have na : a ≠ p := fun z => by rw [z, hn] at h3; cases h3
  have gr := Grow.upd (al := al) (o := .lst []) hn
  rw [hK]
  refine ⟨.list (pys t.2), .list [], .lst (SqL.of (by rw [upd_ne na]; exact h3)) (reps_dp hp_same t.2 q1 (h4.mono (gr.msk _) (List.prefix_refl _))), .lst (SqL.of upd_same) .nil, pys_lay _ q1, rfl, ?_, ?_⟩
  · have := pys_dep t.2
    show min (PyData.depthAll (pys t.2) + 1) _ ≤ 64
    omega
  · have e : PyData.eqv (.list (pys t.2)) (.list []) = t.2.isEmpty := by
      cases t.2 <;> rfl
    rw [e]
    have := hk _ _ q3 gr s1
    rw [Bool.true_xor]
    exact this
theorem n_tne (C : Cok g P w mg base k fr E N sc fc X) {i j : Nat} {key : Str} (h : nmB N sc i nm = true) : PE X (.Compare (.Subscript (.Name nm p1) (.Constant (.str key) j p2) p3) [.NotEq] [.List [] pos] pos') (rd g m fr E (.tne i key)) :=
  (pe_cmpR (r2_cmp (p := .ne) C.un rfl) (pe_dget C.un1 (C.var h) pe_str (fun _ _ => rfl)) (pe_lst pa_nil) (nomark _)).imp fun σ H Q ⟨B, O, al, r, M, s, q⟩ => tne_op (Kq := fun b => Post g (hid B O) al H Q (.bl b) M) s q (fun b H' q gr s' => q _ _ al gr s'.at.ms rfl) C.K
theorem t_tne (C : Cok g P w mg base k fr E N sc fc X) {i j : Nat} {key : Str} (h : nmB N sc i nm = true) : PT X (.Compare (.Subscript (.Name nm p1) (.Constant (.str key) j p2) p3) [.NotEq] [.List [] pos] pos') (rdt g m fr E (.tne i key)) :=
  (pt_cmpR (r2_cmp (p := .ne) C.un rfl) (pe_dget C.un1 (C.var h) pe_str (fun _ _ => rfl)) (pe_lst pa_nil) (nomark _)).imp fun σ H Q ⟨B, O, al, r, M, s, q⟩ => tne_op (Kq := fun b => ∀ H' al', Grow al H al' H' → MsOk g al' (hp (hid B O) al' H') H' M → Q b H') s q (fun b H' q gr s' => ⟨b, rfl, q _ al gr s'.at.ms⟩) C.K
theorem s_dset (C : Cok g P w mg base k fr E N sc fc X) {i j : Nat} {key : Str} (h : nmB N sc i nm = true) (hs : swapsWith e (some (.Subscript (.Name nm p1) (.Constant (.str key) j p2) p3)) pos.line X.env = pure false) (ha : PE X e (rd g m fr E xa)) :
    PS X (.Assign [.Subscript (.Name nm p1) (.Constant (.str key) j p2) p3] e pos) (rds g m fr E (.dset i key xa)) :=
  (ps_dput C.un1 (C.var h) pe_str ha hs).imp fun D σ H ⟨O, al, r, M, s, q⟩ => by
    refine rd_of s (show wx m xa E r M _ from q) fun d M1 v H1 al1 q1 g1 s1 r1 => ?_
    obtain ⟨dz, hd, q1⟩ := val_el q1
    obtain ⟨z, hz, q1⟩ := opt_iff.mp q1
    obtain ⟨e0, he, ⟨q1, q3⟩, q2⟩ := opt_iff.mp q1
    obtain ⟨u, hu, ru⟩ := s1.val hd
    obtain ⟨a, kvs, rfl, h1, h2, h3, h4⟩ := dct_at s1 hz ru
    obtain ⟨u0, hu0, _⟩ := h4.get he
    have hal := List.mem_of_getElem? h1
    have fl := h4.len
    refine ⟨_, hu, a, _, rfl, DPut.k (k := Sum.inr key) h3 (by rw [fl, sizeLine_eq]; omega), ?_⟩
    have gr := Grow.sh (H := H1) (o := .dK (putK kvs (Sum.inr key) v)) hal
    have ms := s1.at.ms.write (o := .dK (putK kvs (Sum.inr key) v)) (mo := .dct (fset z.2 key d)) h1 ⟨putK kvs (Sum.inr key) v, upd_same, by
      rw [map_put (by rw [hu0]; rfl)]
      exact FsOk.set r1 h4 q3⟩
    exact q2 σ _ O al1 (g1.stp.trans gr.stp) (s1.grow gr ms)
/-- an own list becomes a shared one -/
theorem shr_imp {i : Nat} {D : Ends} {σ : L2.St} {H : Hp} (h : rds g m fr E (.shr i sa) D σ H) : rds g m fr E sa D σ H := by
  obtain ⟨O, al, r, M, s, q⟩ := h
  obtain ⟨ds, hd, q⟩ := ownv_el q
  obtain ⟨p, vs, h1, h2, h3, h4, h5⟩ := s.own hd
  have hi := s.env.lt i p h1
  have f := s.env.fr i p h1
  have eS : (fun b => hid fr.B0 (dropO O i) b ∨ b ∈ al ++ [p]) = fun b => hid fr.B0 O b ∨ b ∈ al := by
    funext b
    apply propext
    constructor
    · rintro (z | z)
      · exact .inl (hid_drop z)
      · rw [List.mem_append, List.mem_singleton] at z
        rcases z with z | rfl
        · exact .inr z
        · exact .inl (.inr ⟨i, h1⟩)
    · rintro ((z | ⟨j, z⟩) | z)
      · exact .inl (.inl z)
      · by_cases e : j = i
        · subst e
          rw [h1] at z
          cases z
          exact .inr (by simp)
        · exact .inl (.inr ⟨j, by unfold dropO; rw [if_neg e]; exact z⟩)
      · exact .inr (List.mem_append_left _ z)
  have eH : hp (hid fr.B0 (dropO O i)) (al ++ [p]) H = hp (hid fr.B0 O) al H := by
    show msk _ _ = msk _ _
    rw [eS]
  have px : al <+: al ++ [p] := List.prefix_append _ _
  have sm : Same (hp (hid fr.B0 O) al H) (hp (hid fr.B0 (dropO O i)) (al ++ [p]) H) := by rw [eH]; exact Same.refl _
  have s2 : Sta g fr fr.B0 (dropO O i) (al ++ [p]) σ H (r.set i (.val (.tok M.length))) (M ++ [.lst ds]) := by
    refine ⟨{ len := by rw [List.length_set]; exact s.env.len, sl := fun j t ht => ?_, inj := fun a b q e1 e2 => s.env.inj a b q (dropO_some e1).2 (dropO_some e2).2, lt := fun j q e => by rw [List.length_set]; exact s.env.lt j q (dropO_some e).2, fr := fun j q e => ?_, ms := ?_, bt := fun b hb => ?_, gr := ?_ }, s.sub⟩
    · by_cases e : j = i
      · subst e
        rw [List.getElem?_set_self hi] at ht
        cases ht
        refine ⟨by unfold dropO; rw [if_pos rfl], .ref p, h2, p, ?_, rfl⟩
        rw [← s.at.ms.len, List.getElem?_append_right (Nat.le_refl _)]
        simp
      · rw [List.getElem?_set_ne (fun z => e z.symm)] at ht
        have q := s.env.sl j t ht
        cases t with
        | un =>
          show dropO O i j = none
          unfold dropO
          rw [if_neg e]; exact q
        | val d =>
          obtain ⟨q1, v, q2, q3⟩ := q
          refine ⟨?_, v, q2, ?_⟩
          · unfold dropO; rw [if_neg e]; exact q1
          · exact Rep.mono sm px q3
        | own es =>
          obtain ⟨p', us, q1, q2, q3, q4⟩ := q
          refine ⟨p', us, ?_, q2, q3, Reps.mono sm px q4⟩
          unfold dropO; rw [if_neg e]; exact q1
    · obtain ⟨e1, e2⟩ := dropO_some e
      have f2 := s.env.fr j q e2
      refine ⟨f2.1, fun z => ?_, f2.2.2⟩
      rw [List.mem_append, List.mem_singleton] at z
      rcases z with z | rfl
      · exact f2.2.1 z
      · exact e1 (s.env.inj j i _ e2 h1)
    · exact s.env.ms.snoc h4 sm (fun _ _ => rfl) ⟨vs, h3, Reps.mono sm px h5⟩
    · have q := s.env.bt b hb
      refine ⟨q.1, fun z => ?_⟩
      rw [List.mem_append, List.mem_singleton] at z
      rcases z with z | rfl
      · exact q.2 z
      · exact f.2.2.1 hb
    · refine ⟨s.env.gr.pre.trans px, s.env.gr.keep, fun b hb hn => ?_⟩
      rw [List.mem_append, List.mem_singleton] at hb
      rcases hb with hb | rfl
      · exact s.env.gr.new b hb hn
      · exact f.1
  refine ⟨dropO O i, al ++ [p], _, _, s2, ws_mono sa q (Le.refl _) (kn_tail ⟨sm, px⟩)⟩
theorem s_shrs {i : Nat} {sts : List Stmt} (h : PSs X sts (rds g m fr E sa)) : PSs X sts (rds g m fr E (.shr i sa)) := h.imp fun _ _ _ q => shr_imp q
/-! ### a dict display -/
inductive MkT (g : GC) (m : Sm) (fr : Fm) (E : Ex) : List Str → PV.X → List (TE × TE) → Prop where
  | nil : MkT g m fr E [] .nil []
  | cons {n : Str} {ks : List Str} {a x : PV.X} {trs : List (TE × TE)} (h : MkT g m fr E ks x trs) : MkT g m fr E (n :: ks) (.cons a x) ((tC (.str n), rd g m fr E a) :: trs)
theorem pairs_of : ∀ {ks : List Str} {x : PV.X} {trs : List (TE × TE)}, MkT g m fr E ks x trs → ∀ {B : Addr → Prop} {O : Ow} {al : List Addr} {H : Hp} {r : Ro} {M : Ms} {K : List D → Ms → Prop} {R : List (V × V) → Hp → Prop}, Sta g fr B O al σ H r M → wl m x E r M K →
    (∀ ds M1 vs H1 al1, K ds M1 → Grow al H al1 H1 → Sta g fr B O al1 σ H1 r M1 → Reps g al1 (hp (hid B O) al1 H1) ds vs → ds.length = ks.length → R ((ks.map V.str).zip vs) H1) → tPairs trs σ H R
  | _, _, _, .nil, B, O, al, H, r, M, K, R, s, q, hk => hk [] M [] H al q (Grow.refl _ _) s rfl rfl
  | _, _, _, .cons (n := n) (ks := ks) (a := a) (x := x) h, B, O, al, H, r, M, K, R, s, q, hk => by
    refine rd_of s (show wx m a E r M _ from q) fun d M1 v H1 al1 q1 g1 s1 r1 => ?_
    exact pairs_of h s1 q1 fun ds M2 vs H2 al2 q2 g2 s2 r2 hl => hk (d :: ds) M2 (v :: vs) H2 al2 q2 (g1.trans g2) s2 ⟨v, vs, rfl, r1.mono (g2.msk _) g2.pre, r2⟩ (by simp [hl])
theorem merge_nd : ∀ {more kvs : List (Key × V)}, ((kvs ++ more).map (·.1)).Nodup → mergeK kvs more = kvs ++ more
  | [], kvs, _ => by simp [mergeK]
  | q :: more, kvs, h => by
    have e : putK kvs q.1 q.2 = kvs ++ [q] := by
      unfold putK
      rw [if_neg]
      intro z
      rw [List.any_eq_true] at z
      obtain ⟨y, hy, hz⟩ := z
      rw [List.map_append, List.nodup_append] at h
      exact h.2.2 y.1 (List.mem_map_of_mem hy) q.1 (by simp) (of_decide_eq_true hz)
    have h2 : mergeK kvs (q :: more) = mergeK (putK kvs q.1 q.2) more := rfl
    rw [h2, e, merge_nd (by simpa using h)]
    simp
theorem zip_keys : ∀ (ks : List Str) (vs : List V), (ks.map V.str).zip vs = ((ks.zip vs).map fun p => ((Sum.inr p.1 : Key), p.2)).map fun kv => (kV kv.1, kv.2)
  | [], _ => rfl
  | _ :: _, [] => rfl
  | k :: ks, v :: vs => by
    simp only [List.map_cons, List.zip_cons_cons, zip_keys ks vs]
    rfl
theorem fs_zip {al : List Addr} {Hm : Hp} : ∀ {ks : List Str} {ds : List D} {vs : List V}, Reps g al Hm ds vs → ks.length = ds.length → FsOk g al Hm (ks.zip ds) ((ks.zip vs).map fun p => ((Sum.inr p.1 : Key), p.2))
  | [], ds, vs, _, _ => rfl
  | k :: ks, [], vs, _, h => by simp at h
  | k :: ks, d :: ds, vs, h, hl => by
    obtain ⟨v, r, rfl, h2, h3⟩ := h
    exact ⟨v, _, rfl, h2, fs_zip h3 (by simpa using hl)⟩
theorem d_nil : PPs X pos [] [] [] := pps_nil
theorem d_cons {n : Str} {j : Nat} {kE : List (Option Expr)} {vE : List Expr} {trs : List (TE × TE)} (ha : PE X a (rd g m fr E xa)) (h : PPs X pos kE vE trs) : PPs X pos (some (.Constant (.str n) j p1) :: kE) (a :: vE) ((tC (.str n), rd g m fr E xa) :: trs) := pps_cons pe_str ha h
theorem n_mkd (C : Cok g P w mg base k fr E N sc fc X) {ks : List Str} {kE : List (Option Expr)} {vE : List Expr} {trs : List (TE × TE)} (ht : MkT g m fr E ks x trs) (hall : kE.all (·.isSome) = true) (hl : kE.length = vE.length) (h0 : kE ≠ []) (h15 : kE.length ≤ 15) (h : PPs X pos kE vE trs) :
    PE X (.Dict kE vE pos) (rd g m fr E (.mkd ks x)) :=
  (pe_disp h hall hl h0 h15).imp fun σ H Q ⟨B, O, al, r, M, s, q⟩ => fun p hn => by
    have q : wl m x E r M fun ds M' => (ks.length = ds.length ∧ ks.Nodup ∧ ks.length ≤ 15 ∧ ks ≠ []) ∧ Post g (hid B O) al H Q (.tok M'.length) (M' ++ [.dct (ks.zip ds)]) := q
    obtain ⟨f1, f2, f3⟩ := s.fresh hn
    have s1 := s.hide (o := .dK []) hn
    refine pairs_of ht s1 q fun ds M1 vs H1 al1 q1 g1 s2 r2 hlen => ?_
    obtain ⟨⟨c1, c2, c3, c4⟩, q1⟩ := q1
    have hB : hid (fun b => B b ∨ b = p) O p := .inl (.inr rfl)
    have np : p ∉ al := f2
    have hp1 : H1 p = some (.dK []) := g1.keep p _ upd_same np
    have np1 : p ∉ al1 := (s2.hidT hB).2
    refine ⟨hp1, (ks.zip vs).map fun p => ((Sum.inr p.1 : Key), p.2), zip_keys ks vs, by rw [List.length_map, List.length_zip]; omega, ?_⟩
    have em : mergeK [] ((ks.zip vs).map fun p => ((Sum.inr p.1 : Key), p.2)) = (ks.zip vs).map fun p => ((Sum.inr p.1 : Key), p.2) := by
      rw [merge_nd]
      · rfl
      · have e1 : ((([] : List (Key × V)) ++ (ks.zip vs).map fun p : Str × V => ((Sum.inr p.1 : Key), p.2)).map fun x : Key × V => x.1) = (ks.map fun n => (Sum.inr n : Key)) := by
          rw [List.nil_append, List.map_map]
          have : ((fun x : Key × V => x.1) ∘ fun p : Str × V => ((Sum.inr p.1 : Key), p.2)) = (fun n => (Sum.inr n : Key)) ∘ Prod.fst := rfl
          rw [this, ← List.map_map, List.map_fst_zip (by rw [r2.length]; omega)]
        rw [e1]
        exact List.pairwise_map.mpr (c2.imp fun {a b} h z => h (Sum.inr.inj z))
    rw [em]
    let o : HO := .dK ((ks.zip vs).map fun p => ((Sum.inr p.1 : Key), p.2))
    show Q (.ref p) (L2.upd H1 p o)
    have eH : hp (hid B O) (al1 ++ [p]) (L2.upd H1 p o) = hp (hid (fun b => B b ∨ b = p) O) al1 H1 := by
      funext b
      show msk _ _ b = msk _ _ b
      by_cases e : hid (fun b => B b ∨ b = p) O b ∨ b ∈ al1
      · unfold msk
        rw [if_pos e, if_pos]
        rcases e with ((e | rfl) | ⟨j, e⟩) | e
        · exact .inl (.inl e)
        · exact .inr (by simp)
        · exact .inl (.inr ⟨j, e⟩)
        · exact .inr (List.mem_append_left _ e)
      · rw [msk_of (H := H1) e, msk_of, upd_ne]
        · rintro rfl; exact e (.inl hB)
        · rintro ((z | ⟨j, z⟩) | z)
          · exact e (.inl (.inl (.inl z)))
          · exact e (.inl (.inr ⟨j, z⟩))
          · rw [List.mem_append, List.mem_singleton] at z
            rcases z with z | rfl
            · exact e (.inr z)
            · exact e (.inl hB)
    have px : al1 <+: al1 ++ [p] := List.prefix_append _ _
    have sm : Same (hp (hid (fun b => B b ∨ b = p) O) al1 H1) (hp (hid B O) (al1 ++ [p]) (L2.upd H1 p o)) := by rw [eH]; exact Same.refl _
    have gr : Grow al H (al1 ++ [p]) (L2.upd H1 p o) := by
      refine ⟨g1.pre.trans px, fun b u hb hn' => ?_, fun b hb hn' => ?_⟩
      · have nb : b ≠ p := ne_of_none hb hn
        rw [upd_ne nb]
        exact g1.keep b u (by rw [upd_ne nb]; exact hb) hn'
      · rw [List.mem_append, List.mem_singleton] at hb
        rcases hb with hb | rfl
        · have := g1.new b hb hn'
          by_cases e : b = p
          · rw [e]; exact hn
          · rwa [upd_ne e] at this
        · exact hn
    refine q1 (.ref p) _ (al1 ++ [p]) gr ?_ ⟨p, by rw [← s2.at.ms.len, List.getElem?_append_right (Nat.le_refl _)]; simp, rfl⟩
    refine s2.at.ms.snoc np1 sm (fun b hb => upd_ne fun z => np1 (by rw [← z]; exact hb)) ⟨_, upd_same, ?_⟩
    rw [eH]
    exact fs_zip (r2.mono (Same.refl _) px) c1
end
end PV

set_option Elab.async false
set_option linter.all false
set_option maxRecDepth 100000
set_option maxHeartbeats 4000000
/-! PV part 16: an exception caught and kept, the lambda handed to the catcher. -/
namespace PV
open PySem PySem.Spec PyProof.Rows L2

/-- an exception that is held -/
def ExW (cls : Value) (a : Addr) (d : Option Addr) : HO := .ext fun h => ∃ (oe : Obj) (vs : Array Value), h.get? a = some oe ∧ Zc cls d oe ∧ oe.data = .fields vs
theorem exW_ok {P : Program} {w : World} {H : Hp} {h : Heap} {a : Addr} {cls : Value} {d : Option Addr} {oe : Obj} {vs : Array Value} (e : h.get? a = some oe) (z : Zc cls d oe) (q : oe.data = .fields vs) : ObjOk P w H h a (ExW cls a d) :=
  ⟨⟨oe, vs, e, z, q⟩, ⟨oe, e⟩, fun _ _ ⟨o, us, e1, e2⟩ keep => ⟨o, us, keep o e1, e2⟩⟩
section
variable {X : Cx} {pins : List (Addr × Obj)} {σ : L2.St} {H : Hp} {s : Shared}
/-- what was caught is told of from now on -/
theorem inv_held {a : Addr} {cls : Value} {d : Option Addr} {oe : Obj} {vs : Array Value} {sI : Shared} {pinsI : List (Addr × Obj)} {σI : L2.St} (I : L2.Inv X pins σ H s) (J : L2.Inv X pinsI σI H sI) (hsub : pins ⊆ pinsI) (e : s.heap.get? a = some oe) (z : Zc cls d oe) (q : oe.data = .fields vs) (hn : H a = none) (new : sI.heap.get? a = none) (hex : X.ex = []) :
    L2.Inv X pins σ (L2.upd H a (ExW cls a d)) s := by
  have ne0 : ∀ b o, X.s_0.heap.get? b = some o → b ≠ a := fun b o h0 eq => by
    obtain ⟨o', h1⟩ := J.base.there b o h0 (by rw [hex]; simp)
    rw [eq, new] at h1; cases h1
  have cells : ∀ x c, X.env.cells.lookup x = some c → c ≠ a := fun x c hc eq => by
    obtain ⟨v, o, h1, _⟩ := J.cell x c hc
    rw [eq, new] at h1; cases h1
  have loc : X.env.locals ≠ a := fun eq => by
    have h1 := J.lt
    obtain ⟨m, hns, _⟩ := J.loc
    obtain ⟨oL, _, _, hoL, _⟩ := id hns
    rw [eq, new] at hoL; cases hoL
  exact ⟨I.ok, I.os, I.bare, ⟨I.base.keep, I.base.slot, fun b o h1 h2 h3 => by rw [upd_ne (ne0 b o h1)]; exact I.base.free b o h1 h2 h3, I.base.there, fun b xs h => by
      have h1 := I.base.tups b xs h
      rw [upd_ne (ne_of_none h1 hn)]; exact h1, fun b o u h => by
      have h1 := I.base.frzs b o u h
      rw [upd_ne (ne_of_none h1 hn)]; exact h1, fun b ps h => by
      obtain ⟨more, h1⟩ := I.base.tbls b ps h
      exact ⟨more, by rw [upd_ne (ne_of_none h1 hn)]; exact h1⟩⟩, I.loc, I.cell, by rw [upd_ne loc]; exact I.free, fun x c hc => by rw [upd_ne (cells x c hc)]; exact I.freeC x c hc, fun p hpm => by
      obtain ⟨h1, h2, h3, h4, h5⟩ := I.pin p hpm
      refine ⟨h1, ?_, h3, h4, h5⟩
      have hJ : p ∈ X.pn ++ pinsI := by
        rcases List.mem_append.mp hpm with h | h
        · exact List.mem_append_left _ h
        · exact List.mem_append_right _ (hsub h)
      have h6 := (J.pin p hJ).1
      rw [upd_ne fun eq => by rw [eq, new] at h6; cases h6]; exact h2, I.hok.laidN (fun _ _ h => h) hn (exW_ok e z q), I.len⟩
end
/-- what 'except c as n: y = n' wishes -/
def wKp (K : PySem.W.Frag) (c : Value) (i j l : Nat) (Wout : WX) (D : Ends) : WX := fun cls d σ H => σ.length = l →
  ∃ b, PySem.W.exmOne K cls c = some b ∧ (b = true → ∀ a, H a = none → D.nx (((σ.set i (some (.ref a))).set j (some (.ref a))).set i none) (L2.upd H a (ExW cls a d))) ∧ (b = false → Wout cls d σ H)
section
variable {X : Cx} {x n y : Str} {c : Value} {i j : Nat} {body : List Stmt} {np pos pos' q1 q2 q3 : Pos} {tb : WX → TS} {Wout : WX}
theorem ps_keepE (hs : X.stack = X.env :: X.outer) (hf : X.env.frame = some X.env.locals) (hex : X.ex = []) (hN : X.N.Nodup) (hi : X.N[i]? = some n) (hj : X.N[j]? = some y) (hln : X.env.kindOf n = some .local) (hly : X.env.kindOf y = some .local) (hc : Names X x c) (tk : Takes X Wout) (hij : i ≠ j)
    (hd : (n == ("__debug__" : Str)) = false) (hcd : (n == ("__classdict__" : Str)) = false)
    (hb : ∀ (W : WX) (pn : List (Addr × Obj)) (xe : Value → Shared → Prop), Takes (X.tr pn xe) W → PassesOwn (model X.prog X.w) X.A X.env xe → PSs (X.tr pn xe) body (tb W)) :
    PS X (.Try body [.ExceptHandler (some (.Name x np)) (some n) [.Assign [.Name y q1] (.Name n q2) q3] pos'] [] [] pos) (fun D σ H => tb (wKp X.K c i j X.N.length Wout D) D σ H) := by
  refine ⟨fun pins s σ H D I h => wpAny_Try_except ?_⟩
  have okX := I.ok
  have frames : X.A.frames = some (X.env :: X.outer) := by rw [okX.frames, hs]
  have locn : Loc X.env.scope n := .inl hln
  refine wpAny_mono ((hb (wKp X.K c i j X.N.length Wout D) (X.pn ++ pins) (fun u t => wpAny (model X.prog X.w) X.A (noteFrame u X.env) (fun _ t2 => wpAny (model X.prog X.w) X.A (setFlight u none) (fun _ t3 =>
    wpAny (model X.prog X.w) X.A (handleBy u X.env [.ExceptHandler (some (.Name x np)) (some n) [.Assign [.Name y q1] (.Name n q2) q3] pos']) (SP X pins D) X.xe t3) X.xe t2) X.xe t) (fun u s' hx => ?_) PassesOwn.looking).run [] s σ H D (I.toTry _) h) (fun f s1 hsp => ?_) (fun _ _ z => z)
  · obtain ⟨a, B, sI, pinsI, σ1, H1, cls, d, rfl, J0, inB, up, sky, hna, hos, bare, hwish⟩ := hx
    obtain ⟨b, hb1, hyes, hno⟩ := hwish J0.len
    have J : L2.Inv X pins σ1 H1 sI := J0.ofTry okX
    have sk : Sky B (X.env :: X.outer) a (Zc cls d) X.env.locals s'.heap := by rw [← hs]; exact sky
    show wpAny (model X.prog X.w) X.A (noteFrame (.ref a) X.env) _ _ _
    refine Sky.land Zc.steady frames hf sk fun hh fl upp => ?_
    have K1 : L2.Inv X pins σ1 H1 { s' with heap := hh } := J.landed inB fl.1 (up.trans upp) hos bare
    obtain ⟨oe, vs, get, zc, dat⟩ := fl.there
    have out : a ∉ frs (X.env :: X.outer) := fun hm => by
      obtain ⟨_, o', eo, nf⟩ := fl.2.2.1.mem hm
      rw [get] at eo
      cases eo
      exact nf _ dat
    have nloc : a ≠ X.env.locals := fun z => out (List.mem_filterMap.mpr ⟨X.env, List.mem_cons_self, by rw [hf, z]⟩)
    have nfs : a ∉ X.fs := fun hm => by
      obtain ⟨e, he, q⟩ := List.mem_filterMap.mp hm
      exact out (List.mem_filterMap.mpr ⟨e, List.mem_cons_of_mem _ he, q⟩)
    have newI : sI.heap.get? a = none := by
      cases eo : sI.heap.get? a with
      | none => rfl
      | some o =>
        have h1 := inB a o eo (by rw [hs]; exact out)
        rw [fl.2.1] at h1; cases h1
    have Su := K1.suite get dat hna nloc nfs
    refine wpAny_handleBy_cons (codeAny_handlers_test ?_) (by intro q; cases q)
    have lk : PySem.W.Looks (model X.prog X.w) hh (typeOf (.ref a)) cls := fun A Q E s kp q => wpAny_typeOf_ref (kp _ _ get) (by rw [zc.1]; exact q)
    have mt := PySem.W.exm_one (M := model X.prog X.w) (K1.kIn) lk hb1
    have nam : ∀ {Q : Value → Shared → Prop} {E : Value → Shared → Prop}, Q c { s' with heap := hh } → wpAny (model X.prog X.w) (X.A.mark (some (.ref a))) (eval (.Name x np) X.env) Q E { s' with heap := hh } := fun {Q E} q => by
      obtain ⟨g1, g2, g3 | ⟨g3, g4, g5⟩⟩ := hc
      · exact ld_glob (X := X.suite a ((a, oe) :: (X.pn ++ pins))) Su g1 g3 q g2
      · exact ld_blt (X := X.suite a ((a, oe) :: (X.pn ++ pins))) Su g1 g3 g4 q g5 g2
    refine nam (mt.here ?_)
    cases b with
    | true =>
      refine codeAny_handlers_suite_as (HandSPX.lands_againZ fl fun h2 fl2 up2 => ?_)
      have K2 : L2.Inv X pins σ1 H1 { s' with heap := h2 } := J.landed inB fl2.1 ((up.trans upp).trans up2) hos bare
      obtain ⟨o2, vs2, get2, zc2, dat2⟩ := fl2.there
      have Su2 := K2.suite get2 dat2 hna nloc nfs
      refine store_ok (X := X.suite a ((a, o2) :: (X.pn ++ pins))) (v := .ref a) Su2 hN hi locn rfl (fun s5 Su5 => ?_) (.inr hln)
      have one : PSs (X.suite a ((a, o2) :: (X.pn ++ pins))) [.Assign [.Name y q1] (.Name n q2) q3] (tAsg (tVar i) (gName j)) :=
        pss_one (ps_set (X := X.suite a ((a, o2) :: (X.pn ++ pins))) hN hj (.inl hly) (pe_var (X := X.suite a ((a, o2) :: (X.pn ++ pins))) hi (.inl hln) hd hcd) rfl (.inr hly))
      have hlen : i < σ1.length := by
        rw [J.len]; exact (List.getElem?_eq_some_iff.mp hi).1
      refine wpAny_mono (one.run [] s5 _ H1 { nx := fun σ' H' => σ' = ((σ1.set i (some (.ref a))).set j (some (.ref a))) ∧ H' = H1, rt := fun _ _ => False } Su5 ⟨.ref a, by rw [List.getElem?_set_self hlen], rfl, rfl⟩) (fun f s6 hsp => ?_) (fun _ _ z => False.elim z)
      cases f with
      | next =>
        obtain ⟨σ6, H6, S6, rfl, rfl⟩ := hsp
        refine gone_ok (X := X.suite a ((a, o2) :: (X.pn ++ pins))) S6 hN hi hln fun s7 S7 => ?_
        have g7 := (S7.pin (a, o2) (by simp)).1
        have I7 : L2.Inv X pins _ H6 s7 := S7.unsuite okX
        exact ⟨_, _, inv_held I7 J (fun _ h => h) g7 zc2 dat2 hna newI hex, hyes rfl a hna⟩
      | brk => obtain ⟨_, _, _, z⟩ := hsp; exact False.elim z
      | cont => obtain ⟨_, _, _, z⟩ := hsp; exact False.elim z
      | ret u => obtain ⟨_, _, _, _, _, z⟩ := hsp; exact False.elim z
    | false =>
      show wpAny _ X.A (handleBy (.ref a) X.env []) _ _ _
      refine wpAny_handleBy_nil ?_
      obtain ⟨k1, k2, k3, oe', vs', T, oT, ts', he, hz, hdd, h1, hr⟩ := id fl
      unfold PySem.passOn
      refine wpAny_bind (wpAny_field he hdd h1 ?_)
      rw [if_neg (show ¬ ((Value.ref T == Value.none) = true) from by simp)]
      have fin : wpAny (model X.prog X.w) X.A (setFlight (.ref a) X.env.frame) (fun _ t => wpAny (model X.prog X.w) X.A (throw (.ref a) : Sem Flow) (SP X pins D) X.xe t) X.xe { s' with heap := hh } := by
        rw [hf]
        refine HandSPX.setFlight_upZ fl fun h4 hh4 up4 => wpAny_throw (tk _ _ ?_)
        exact ⟨a, B, sI, pins, σ1, H1, cls, d, rfl, J, inB, (up.trans upp).trans up4, .inr (.inr (by rw [hs]; exact hh4)), hna, hos, bare, hno rfl⟩
      first
        | exact wpAny_bind (wpAny_pure (wpAny_bind fin))
        | exact wpAny_bind fin
  · cases f with
    | next =>
      obtain ⟨σ', H', J', q⟩ := hsp
      exact wpAny_execs_nil ⟨σ', H', J'.ofTry okX, q⟩
    | brk =>
      obtain ⟨σ', H', J', q⟩ := hsp
      exact ⟨σ', H', J'.ofTry okX, q⟩
    | cont =>
      obtain ⟨σ', H', J', q⟩ := hsp
      exact ⟨σ', H', J'.ofTry okX, q⟩
    | ret u =>
      obtain ⟨v, σ', H', J', r, q⟩ := hsp
      exact ⟨v, σ', H', J'.ofTry okX, r, q⟩
end
section
variable {X : Cx} {pins : List (Addr × Obj)} {σ : L2.St} {H : Hp} {s : Shared}
/-- the table may have grown by new code objects -/
def TabG (H H1 : Hp) (T : Addr) (q : Str) : Prop := ∀ ps, H T = some (.tbl ps) → ∃ ps', H1 T = some (.tbl ps') ∧ TriplesOk ps'.toList ∧ ∀ (pos : Pos) (cv : Value), codeAmong pos ps'.toList = some cv → codeAmong pos ps.toList = some cv ∨ ∃ c', cv = .ref c' ∧ H c' = none ∧ H1 c' = some (LamX.CodeO c' q)
/-- the lambda made; of the tracked objects only the table at T changes -/
theorem lam_new {c T : Addr} {params : Arguments} {body : Expr} {scope : Scope} {pos : Pos} {EE : Value → Shared → Prop} {Q : Value → Shared → Prop} (I : L2.Inv X pins σ H s) (tb : LamX.TabB X.base X.mg c T) (code : X.env.code = .ref c) (tab : LamX.TabS H T (X.env.qual ++ "<lambda>"))
    (plain : defaultsOf params X.env = ([], [])) (free : ∀ y ∈ scope.names, y.2 = .free → ∃ c, X.env.cells.lookup y.1 = some c)
    (h : ∀ (f c' : Addr) (pm ctv : Value) (H1 : Hp) (s' : Shared), L2.Inv X pins σ H1 s' → (∀ b o, b ≠ T → H b = some o → H1 b = some o) → TabG H H1 T (X.env.qual ++ "<lambda>") →
      s'.heap.get? f = some (PySem.W.kla_obj "<lambda>" (X.env.qual ++ "<lambda>") params body scope (cloFrom X.env.cells scope.names []) pm c' ctv) → H1 f = none → f ∉ frs X.stack → H1 c' = some (LamX.CodeO c' (X.env.qual ++ "<lambda>")) → Q (.ref f) s') :
    wpAny (model X.prog X.w) X.A (eval (.Lambda params body scope pos) X.env) Q EE s := by
  obtain ⟨ps, atT, okT, told⟩ := tab
  refine PySem.W.kla_eval plain ?_
  have blt := tb.bm.keeps I.bk
  have getT : s.heap.get? T = some { cls := .none, data := .fields ps } := I.hok T _ atT
  have off : ∀ f, s.heap.objs.size ≤ f → f ∉ frs X.stack := fun f big hm => by
    rcases List.mem_cons.mp (I.stkSub _ hm) with e | e
    · subst e
      exact Nat.lt_irrefl _ (Nat.lt_of_lt_of_le I.lt big)
    · exact I.nofs big e
  cases found : codeAmong pos ps.toList with
  | some cv =>
    obtain ⟨c', rfl, isC⟩ := told pos cv found
    refine PySem.W.kla_makeFunctionHit (mg := X.mg) (c := c) (P := T) (ps := ps) (closure_ok free) I.ok.glob (I.mod.glob.keeps I.bk) code (tb.code.keeps I.bk) getT okT found blt fun ctv h' tk ext big => ?_
    exact h h'.objs.size c' ((X.mg "__name__").getD .none) ctv H _ (I.kept fun b o e => Heap.get?_push_of_some _ (ext b o e)) (fun _ _ _ e => e) (fun ps2 h2 => by rw [atT] at h2; cases h2; exact ⟨ps, atT, okT, fun _ _ h => .inl h⟩) (Heap.get?_push_size _ rfl) (I.hok.fresh big) (off _ big) isC
  | none =>
    refine PySem.W.kla_makeFunction (mg := X.mg) (c := c) (P := T) (ps := ps) (closure_ok free) I.ok.glob (I.mod.glob.keeps I.bk) code (tb.code.keeps I.bk) getT okT found tb.gP blt fun c' ctv h' tk ext low lt rec_ htb => ?_
    obtain ⟨c2, oc, vs, t, e2, hoc, hd, hv⟩ := rec_
    cases e2
    have big : s.heap.objs.size ≤ h'.objs.size := Nat.le_trans low (Nat.le_of_lt lt)
    have newC : H c' = none := I.hok.fresh low
    have neC : ∀ {b o}, H b = some o → b ≠ c' := fun {b o} e => ne_of_none e newC
    let grown := ps ++ #[rawInt pos.line, rawInt pos.col, .ref c']
    have J := LamX.inv_table (t' := tk) (more := #[rawInt pos.line, rawInt pos.col, .ref c']) (h' := h'.push (PySem.W.kla_obj "<lambda>" (X.env.qual ++ "<lambda>") params body scope (cloFrom X.env.cells scope.names []) ((X.mg "__name__").getD .none) c' ctv)) I atT
      (fun b o nb e => Heap.get?_push_of_some _ (ext b o nb e)) (Heap.get?_push_of_some _ htb) low ⟨oc, vs, t, Heap.get?_push_of_some _ hoc, hd, hv⟩
    have keep : ∀ b o, b ≠ T → H b = some o → L2.upd (L2.upd H T (.tbl grown)) c' (LamX.CodeO c' (X.env.qual ++ "<lambda>")) b = some o := fun b o nb e => by
      rw [upd_ne (neC e), upd_ne nb]; exact e
    have gl : grown.toList = ps.toList ++ [rawInt pos.line, rawInt pos.col, .ref c'] := by simp [grown]
    refine h h'.objs.size c' ((X.mg "__name__").getD .none) ctv _ _ J keep (fun ps2 hp2 => ?_) (Heap.get?_push_size _ rfl) ?_ (off _ big) upd_same
    · rw [atT] at hp2
      cases hp2
      refine ⟨grown, by rw [upd_ne (neC atT), upd_same], by rw [gl]; exact PySem.TriplesOk_snoc _ _ _ _ okT, fun pos2 cv hcv => ?_⟩
      rw [gl] at hcv
      rcases LamX.among_app _ okT hcv with z | z
      · exact .inl z
      · exact .inr ⟨c', z, newC, upd_same⟩
    · have n1 : h'.objs.size ≠ c' := Nat.ne_of_gt lt
      have n2 : h'.objs.size ≠ T := Nat.ne_of_gt (Nat.lt_of_lt_of_le (Heap.lt_size getT) big)
      rw [upd_ne n1, upd_ne n2]
      exact I.hok.fresh big
/-- x(lambda: body), of the tracked objects only the table changes -/
theorem pe_lamT {T : Addr} {TT : (XK → Hp → VK → Prop) → Hp → VK → Prop} {x a : Str} {g c : Addr} {k : Nat} {pg : Arguments} {bg : List Stmt} {sg : Scope} {dV kV doc pm cdv ct oc : Value} {an od : Option Addr} {osl : Array (Option Value)} {Ng : List Str} {params : Arguments} {body : Expr} {scope : Scope} {t : XK → TE} {p lpos pos : Pos}
    (hg : Gl X x) (hm : X.mg x = some (.ref g)) (hk : PySem.W.keepIn X.K (.ref g) = true) (lk : X.K.lookup g = some ⟨oc, od, .func (PySem.W.fnOf x x pg bg sg dV kV doc pm an cdv ct), osl⟩) (hcg : PySem.W.codeIn X.K cdv x = true) (hb : L2.Binds X.K (PySem.W.fnOf x x pg bg sg dV kV doc pm an cdv ct) [a] [])
    (Sg : FnScope Ng [a] sg) (hNg : Ng[0]? = some a) (hva : Vis sg a) (hG : LamX.GivesTo X Ng x sg g cdv bg a (X.env.qual ++ "<lambda>") TT) (tb : LamX.TabB X.base X.mg c T) (code : X.env.code = .ref c) (hr : Room (k + 2) X.A) (L : LamX.LamS X.env.scope scope) (plain : defaultsOf params X.env = ([], []))
    (hbind : ∀ (q : Str) (cl : List (Str × Addr)) (pm cv ctv : Value), bindArgs (PySem.W.kla_fn "<lambda>" q params body scope cl pm cv ctv) ⟨[], []⟩ = pure [])
    (hbody : ∀ (A : Around) (outer : List Env) (s : Shared) (H : Hp) (EE : XK) (f c' : Addr), Room k (A.deeper (LamX.lamEnv X scope s.heap.objs.size f c')) → PE (LamX.lamCx X A outer s H EE scope f c') body (t EE))
    (hdb : (x == ("__debug__" : Str)) = false) (hd : (a == ("__debug__" : Str)) = false) (hcd : (a == ("__classdict__" : Str)) = false) :
    PE X (.Call (.Name x p) [.Lambda params body scope lpos] [] pos) (fun σ H Q => LamX.TabS H T (X.env.qual ++ "<lambda>") ∧ ∀ H1, (∀ b o, b ≠ T → H b = some o → H1 b = some o) → TabG H H1 T (X.env.qual ++ "<lambda>") → TT (fun EE H' Q' => t EE σ H' Q') H1 Q) := by
  refine ⟨fun pins s σ H Q I ⟨hT, h⟩ => wpAny_Call_Name_kw (ld_glob I hg hm ?_ hdb)⟩
  refine PySem.W.callWith_K (h₀ := X.base) I.ok.mod.kin hk ?_ (by rfl) (by rfl)
  show wpAny _ _ (spliced ((false, eval (.Lambda params body scope lpos) X.env) :: backTo pos (starEach [] X.env))) _ _ s
  refine Calls.spliced_cons (lam_new I tb code hT plain (L.has I.ok) fun f c' pm' ctv H1 s' I1 k1 T1 getf newf outf isC => Calls.spliced_nil ⟨I1.kIn, ?_⟩)
  have run : codeAny (model X.prog X.w) X.A (.call (.ref g) ⟨[.ref f], []⟩) (CR C8.CX0 X.stack X.prog X.w H1 s' Q C8.E0) s' := by
    refine LamX.run_ofS (N := Ng) (ps := [a]) (us := [.ref f]) (vs := [.ref f]) lk hcg Sg hr I1.env0 (hb s' [.ref f] I1.kIn rfl) (.cons rfl .nil) rfl fun hr' => ?_
    obtain ⟨t', ht', hq'⟩ := hG f c' s' H1 Q (fun EE H' Q' => t EE σ H' Q') (fun W pn xe EE p1 p2 tk hW => LamX.pe_act (i := 0) I1 L getf newf outf (hbind _ _ _ _ _) tk hW hr' (fun A outer s H hr2 => hbody A outer s H EE f c' hr2) hNg hva hd hcd) isC (h H1 k1 T1)
    exact ⟨t', ht'.nox, hq'⟩
  refine wpAny_call (codeAny_mono run fun r s2 hq => ?_)
  cases r with
  | error e => exact (show False from hq).elim
  | ok fl =>
    cases fl with
    | ret u => exact I1.after hq
    | next => exact False.elim hq
    | brk => exact False.elim hq
    | cont => exact False.elim hq
end
/-- the catcher: y = None; try: a() / except e as n: y = n; return y -/
def TTc (K : PySem.W.Frag) (CS : Addr) : (XK → Hp → VK → Prop) → Hp → VK → Prop := fun tl H Q =>
  tl (fun cls d H' => ∃ b, PySem.W.exmOne K cls (.ref CS) = some b ∧ (b = true → ∀ a, H' a = none → Q (.ref a) (L2.upd H' a (ExW cls a d))) ∧ (b = false → False)) H (fun _ H' => Q .non H')
theorem caught_gives {X : Cx} {x a y n e q : Str} {sg : Scope} {g CS : Addr} {cdg : Value} {j : Nat} {z1 z2 z3 z4 z5 z6 z7 z8 z9 u1 u2 u3 u4 u5 : Pos} (hme : X.mg e = some (.ref CS)) (hge : glB sg e = true) (hnd : [a, y, n].Nodup) (hk : sg.kind = .function) (hy : sg.names.lookup y = some .local) (hn : sg.names.lookup n = some .local)
    (hd : (n == ("__debug__" : Str)) = false) (hcd : (n == ("__classdict__" : Str)) = false) (hd2 : (y == ("__debug__" : Str)) = false) (hcd2 : (y == ("__classdict__" : Str)) = false) :
    LamX.GivesTo X [a, y, n] x sg g cdg [.Assign [.Name y z1] (.Constant .none j z2) z3, .Try [.Expr (.Call (.Name a z4) [] [] z5) z6] [.ExceptHandler (some (.Name e z7)) (some n) [.Assign [.Name y z8] (.Name n z9) u1] u2] [] [] u3, .Return (some (.Name y u4)) u5] a q (TTc X.K CS) := by
  intro f c' s H Q tl act hc h
  let X0 := (cxOf C8.CX0 X.prog X.w X.K X.mg X.base [a, y, n] x sg g cdg X.A X.stack s H C8.E0).nox
  have hgl : Gl X0 e := by
    unfold glB at hge
    rw [Bool.and_eq_true] at hge
    have h1 := hge.1
    show sg.names.lookup e = _
    split at h1
    · assumption
    · cases h1
  refine ⟨_, pss_cons (ps_set (X := X0) (i := 1) hnd rfl (.inl hy) pe_non rfl (.inr hy)) (pss_cons (ps_keepE (X := X0) (i := 2) (j := 1) (c := .ref CS) (Wout := fun _ _ _ _ => False)
      (tb := fun W D σ H => ∃ Ech : XK, (∀ cls d σ' H', Ech cls d H' → W cls d σ' H') ∧ σ[0]? = some (some (.ref f)) ∧ H c' = some (LamX.CodeO c' q) ∧ tl Ech H (fun _ H' => D.nx σ H'))
      rfl rfl rfl hnd rfl rfl hn hy ⟨hgl, glB_d hge, .inl hme⟩ LamX.takes0 (by decide) hd hcd (fun W pn xe tk _ => ?_)) (pss_one (ps_ret (pe_var (X := X0) (i := 1) rfl (.inl hy) hd2 hcd2)))), ?_⟩
  · refine ⟨fun pins s' σ H' D I h' => ?_⟩
    obtain ⟨Ech, hW, h1, h2, h3⟩ := h'
    exact (pss_one (ps_expr (pos := z6) (act W pn xe Ech z4 z5 tk hW) rfl)).run pins s' σ H' D I ⟨h1, h2, h3⟩
  · have e0 : ∀ v : Option V, ((L2.start [a, y, n] [V.ref f]).set 1 v) = [some (V.ref f), v, none] := fun v => rfl
    let D2 : Ends := { nx := fun σ' H' => tVar 1 σ' H' Q, rt := Q }
    have main : ∃ Ech : XK, (∀ cls d σ' H', Ech cls d H' → wKp X.K (.ref CS) 2 1 3 (fun _ _ _ _ => False) D2 cls d σ' H') ∧ ((L2.start [a, y, n] [V.ref f]).set 1 (some .non))[0]? = some (some (.ref f)) ∧ H c' = some (LamX.CodeO c' q) ∧ tl Ech H (fun _ H' => D2.nx ((L2.start [a, y, n] [V.ref f]).set 1 (some .non)) H') := by
      refine ⟨fun cls d H' => ∃ b, PySem.W.exmOne X.K cls (.ref CS) = some b ∧ (b = true → ∀ a, H' a = none → Q (.ref a) (L2.upd H' a (ExW cls a d))) ∧ (b = false → False), fun cls d σ' H' ⟨b, e1, e2, e3⟩ hl => ⟨b, e1, fun hb a ha => ⟨.ref a, ?_, e2 hb a ha⟩, e3⟩, rfl, hc, ?_⟩
      · match σ', hl with
        | [_, _, _], _ => rfl
      · have e1 : (fun (_ : V) (H' : Hp) => D2.nx ((L2.start [a, y, n] [V.ref f]).set 1 (some .non)) H') = fun _ H' => ∃ v, some (some V.non) = some (some v) ∧ Q v H' := rfl
        rw [e1]
        have e2 : (fun (_ : V) (H' : Hp) => ∃ v, some (some V.non) = some (some v) ∧ Q v H') = fun (_ : V) (H' : Hp) => Q .non H' := by
          funext _ H'
          apply propext
          constructor
          · rintro ⟨v, h1, h2⟩
            cases h1; exact h2
          · intro h2; exact ⟨_, rfl, h2⟩
        rw [e2]
        exact h
    exact main
theorem Sta.enter {g : GC} {fr : Fm} {B : Addr → Prop} {O : Ow} {al : List Addr} {σ : L2.St} {H : Hp} {r : Ro} {M : Ms} (s : Sta g fr B O al σ H r M) : Sta g ⟨hid B O, al, H⟩ (hid B O) (fun _ => none) al σ H (noOwn r) M := by
  have eh : hid (hid B O) (fun _ => none) = hid B O := by
    funext b
    simp [hid]
  have e1 : hm (hid B O) (fun _ => none) al H = hm B O al H := by
    show hp (hid (hid B O) fun _ => none) al H = hp (hid B O) al H
    rw [eh]
  refine ⟨{ len := by unfold noOwn; rw [List.length_map]; exact s.env.len, sl := fun i t h => ?_, inj := (fun _ _ _ h => by cases h), lt := (fun _ _ h => by cases h), fr := (fun _ _ h => by cases h), ms := (by rw [e1]; exact s.env.ms), bt := fun b hb => s.hidT hb, gr := Grow.refl _ _ }, fun _ h => h⟩
  unfold noOwn at h
  rw [List.getElem?_map] at h
  cases e : r[i]? with
  | none => rw [e] at h; cases h
  | some t0 =>
    rw [e] at h
    have q := s.env.sl i t0 e
    rw [e1]
    cases t0 with
    | un => cases h; exact rfl
    | own ds => cases h; exact rfl
    | val d =>
      cases h
      exact ⟨rfl, q.2⟩
structure CauF (g : GC) (m : Sm) (mg : Str → Option Value) (base : Heap) (f jx : Nat) (st : Stmt) (c : Addr) : Prop where
  fd : ∃ fd, FunD g.K "_law_caught" "_law_caught" (defArgs st) (defBody st) (defScope st) [] [] (g.fa jx) fd
  mgf : mg "_law_caught" = some (.ref (g.fa jx))
  sc : FnScope ["action", "found", "error"] ["action"] (defScope st)
  vis : Vis (defScope st) "action"
  bind : ∀ (kV doc pm : Value) (an : Option Addr) (cdv ct : Value) (us : List Value), us.length = 1 → bindArgs (PySem.W.fnOf "_law_caught" "_law_caught" (defArgs st) (defBody st) (defScope st) .none kV doc pm an cdv ct) ⟨us, []⟩ = pure (([("action" : Str)]).zip us)
  gv : ∀ {X : Cx} {cdg : Value} {q : Str}, X.mg = mg → X.K = g.K → LamX.GivesTo X ["action", "found", "error"] "_law_caught" (defScope st) (g.fa jx) cdg (defBody st) "action" q (TTc X.K (g.ec f))
  exm : ∀ k, m.sub k f = true → PySem.W.exmOne g.K (.ref (g.ec k)) (.ref (g.ec f)) = some true
  tb : LamX.TabB base mg c g.tb
  hx : ∀ k a d, g.hx k a d = ExW (.ref (g.ec k)) a d
section
variable {g : GC} {m : Sm} {P : Program} {w : World} {mg : Str → Option Value} {base : Heap} {k : Nat} {fr : Fm} {E : Ex} {N : List Str} {sc : Scope} {fc : Bool} {X : Cx}
theorem n_cau {f jx : Nat} {st : Stmt} {c : Addr} {x : PV.X} {params : Arguments} {body : Expr} {scope : Scope} {p1 lpos pos : Pos} (C : Cok g P w mg base (k + 2) fr E N sc fc X) (F : CauF g m mg base f jx st c) (HC : X.env.code = .ref c) (HQ : X.env.qual ++ "<lambda>" = g.tq) (h : glB sc "_law_caught" = true) (hL : LamX.lamSB sc scope = true)
    (plain : defaultsOf params X.env = ([], [])) (hbind : ∀ (q : Str) (cl : List (Str × Addr)) (pm cv ctv : Value), bindArgs (PySem.W.kla_fn "<lambda>" q params body scope cl pm cv ctv) ⟨[], []⟩ = pure [])
    (he : ∀ {X' : Cx} {fr' : Fm} {E' : Ex}, Cok g P w mg base k fr' E' N scope false X' → PE X' body (rd g m fr' E' x)) : PE X (.Call (.Name "_law_caught" p1) [.Lambda params body scope lpos] [] pos) (rd g m fr E (.cau f x)) := by
  obtain ⟨fd, FD⟩ := F.fd
  obtain ⟨oc, od, dV, kV, doc, pmv, an, cdv, ct, osl, rfl, lk, hcd, hD, hKw⟩ := FD.ex
  have dn : dV = .none := by
    rcases hD with ⟨_, h⟩ | ⟨h, _⟩
    · exact h
    · exact absurd rfl h
  subst dn
  have L : LamX.LamS X.env.scope scope := by rw [C.eS]; exact LamX.lamS_by hL
  have bn : L2.Binds X.K (PySem.W.fnOf "_law_caught" "_law_caught" (defArgs st) (defBody st) (defScope st) .none kV doc pmv an cdv ct) ["action"] [] := by
    rw [C.K]
    exact FD.bindsN F.bind
  refine (pe_lamT (T := g.tb) (c := c) (k := k) (t := fun EE σ H Q => ∃ (fr' : Fm) (E' : Ex), (∀ cls d H', XkOf g fr' E' cls d H' → EE cls d H') ∧ rd g m fr' E' x σ H Q) (C.gl h) (C.mgn F.mgf) (by rw [C.K]; exact FD.kp) (by rw [C.K]; exact lk) (by rw [C.K]; exact hcd) bn F.sc rfl F.vis (F.gv C.eM C.K) (by rw [C.eM, C.eB]; exact F.tb) HC C.room L plain hbind (fun A outer s H EE f2 c' hr => ?_) (by decide) (by decide) (by decide)).imp ?_
  · refine ⟨fun pins s' σ H' Q I ⟨fr', E', hE, q⟩ => ?_⟩
    have tk0 : Takes (LamX.lamCx X A outer s H EE scope f2 c') (fun cls d _ H => EE cls d H) := takes_of rfl rfl rfl rfl
    have tk : Takes (LamX.lamCx X A outer s H EE scope f2 c') (fun cls d _ H => XkOf g fr' E' cls d H) := tk0.imp fun cls d σ H' h1 => hE cls d H' h1
    have C' : Cok g P w mg base k fr' E' N scope false (LamX.lamCx X A outer s H EE scope f2 c') :=
      ⟨C.nd, L.kind, C.eP, C.eW, C.K, C.eM, C.eB, C.eN, rfl, hr, rfl, tk, passes_call tk fun _ _ _ _ h => h, (fun h => by cases h), (fun h => by cases h)⟩
    exact (he C').run pins s' σ H' Q I q
  · rintro σ H Q ⟨B, O, al, r, M, s, ht, q⟩
    unfold hasTab at ht
    split at ht
    · rename_i q0 hM
      have hl0 : 0 < al.length := by rw [s.at.ms.len]; exact (List.getElem?_eq_some_iff.mp hM).1
      have ha0 := List.getElem?_eq_getElem hl0
      obtain ⟨⟨ea, eq⟩, ps, h1, h2, h3⟩ := s.at.ms.at_ 0 _ _ ha0 hM
      rw [ea] at ha0 h1
      have hal : g.tb ∈ al := List.mem_of_getElem? ha0
      rw [HQ]
      subst eq
      refine ⟨⟨ps, h1, h2, fun pos cv hc => ?_⟩, fun H1 k1 T1 => ?_⟩
      · obtain ⟨c0, e1, e2⟩ := h3 pos cv hc
        exact ⟨c0, e1, hp_same _ _ e2⟩
      · have gr : Grow al H al H1 := ⟨List.prefix_refl _, fun b o hb hn => k1 b o (fun z => hn (by rw [z]; exact hal)) hb, fun b hb hn => absurd hb hn⟩
        have sm := gr.msk (hid B O)
        have ms1 : MsOk g al (hp (hid B O) al H1) H1 M := by
          refine ⟨s.at.ms.len, s.at.ms.nd, fun kk a mo e1 e2 => ?_⟩
          by_cases ez : a = g.tb
          · subst ez
            have e0 : kk = 0 := nodup_at s.at.ms.nd e1 ha0
            subst e0
            rw [hM] at e2
            cases e2
            obtain ⟨ps', t1, t2, t3⟩ := T1 ps h1
            refine ⟨⟨rfl, rfl⟩, ps', t1, t2, fun pos cv hc => ?_⟩
            rcases t3 pos cv hc with hc | ⟨c', e3, e4, e5⟩
            · obtain ⟨c0, e3, e4⟩ := h3 pos cv hc
              exact ⟨c0, e3, sm _ _ e4⟩
            · refine ⟨c', e3, ?_⟩
              show msk _ _ c' = _
              rw [msk_of]
              · exact e5
              · rintro (z | z)
                · have := (s.hidT z).1
                  rw [e4] at this; cases this
                · have := s.at.ms.tracked z
                  rw [e4] at this; cases this
          · have hb : H1 a = H a := by
              have := s.at.ms.tracked (List.mem_of_getElem? e1)
              obtain ⟨o, ho⟩ := Option.isSome_iff_exists.mp this
              rw [ho]; exact k1 a o ez ho
            exact (s.at.ms.at_ kk a mo e1 e2).mono sm (List.prefix_refl _) hb
        have s1 := s.grow gr ms1
        have s2 := s1.enter
        have eh : hid (hid B O) (fun _ => none) = hid B O := by
          funext b
          simp [hid]
        refine ⟨⟨hid B O, al, H1⟩, fun x M' => m.sub x.k f = true ∧ Post g (hid B O) al H Q (.exc x.k x.fs) M', ?_, hid B O, (fun _ => none), al, noOwn r, M, s2, ?_⟩
        · rintro cls d H' ⟨xc, M', al', ⟨hs, hq⟩, g1, m1, ⟨e1, vs, e2, e3⟩⟩
          subst e1
          refine ⟨true, by rw [C.K]; exact F.exm _ hs, fun _ a hn => ?_, fun z => by cases z⟩
          have g2 := Grow.upd (al := al') (o := ExW (.ref (g.ec xc.k)) a d) hn
          have sm2 := g2.msk (hid B O)
          refine hq _ _ al' ((gr.trans g1).trans g2) (MsOk.upd m1 hn) ⟨a, d, vs, rfl, ?_, e2.mono sm2 (List.prefix_refl _), ?_⟩
          · rw [F.hx]
            show msk _ _ a = _
            rw [msk_of]
            · exact upd_same
            · rintro (z | z)
              · have h5 := (s1.hidT z)
                obtain ⟨o, ho⟩ := Option.isSome_iff_exists.mp h5.1
                rw [g1.keep a o ho h5.2] at hn; cases hn
              · have := m1.tracked z
                rw [hn] at this; cases this
          · rcases e3 with e3 | ⟨e3, p, e4, e5⟩
            · exact .inl e3
            · exact .inr ⟨e3, p, e4, sm2 _ _ e5⟩
        · refine wx_mono x q (Le.refl _) fun d M' hq v H' al' g1 m1 r1 => ?_
          rw [eh] at m1
          exact hq .non H' al' (gr.trans g1) m1 rfl
    · exact ht.elim
end
end PV

set_option Elab.async false
set_option linter.all false
set_option maxRecDepth 100000
set_option maxHeartbeats 4000000
/-! PV part 17: isinstance of a held exception; a def that makes lambdas. -/
namespace PV
open PySem PySem.Spec PyProof.Rows L2
section
variable {g : GC} {m : Sm} {P : Program} {w : World} {mg : Str → Option Value} {base : Heap} {k : Nat} {fr : Fm} {E : Ex} {N : List Str} {sc : Scope} {fc : Bool} {X : Cx}
variable {a e : Expr} {xa : PV.X} {pos p1 p2 p3 : Pos} {nm : Str}
structure IsiF (g : GC) (m : Sm) : Prop where
  hx : ∀ k a d, g.hx k a d = ExW (.ref (g.ec k)) a d
  cls : ∀ k, k < m.ncl → ExcC g.K (g.ec k)
  kit : ∀ k j, k < m.ncl → j < m.ncl → PySem.W.kitOne g.K (.ref (g.ec k)) (.ref (g.ec j)) = some (m.sub k j)
theorem n_isiE {j : Nat} (C : Cok g P w mg base k fr E N sc fc X) (B : Blt mg) (I : IsiF g m) (F : ExF g mg j nm) (hj : decide (j < m.ncl) = true) (hg : glB sc "isinstance" = true) (hg2 : glB sc nm = true) (hs : starEach [a, .Name nm p2] X.env = (false, eval a X.env) :: starEach [.Name nm p2] X.env) (hs2 : starEach [.Name nm p2] X.env = (false, eval (.Name nm p2) X.env) :: starEach [] X.env)
    (hpl : (backTo pos (starEach [.Name nm p2] X.env)).any (·.1) = false) (ha : PE X a (rd g m fr E xa)) : PE X (.Call (.Name "isinstance" p1) [a, .Name nm p2] [] pos) (rd g m fr E (.isi [.own j] xa)) :=
  ok_isiE C.K (fun k a d => I.hx k a d) I.cls (fun k hk => I.kit k j hk (of_decide_eq_true hj)) (pe_glob (v := .ref (g.ec j)) (C.gl hg2) (C.mgn F.mgf) rfl (glB_d hg2)) (fun {ta} h => pe_callB call_isV (C.gl hg) (C.mgn B.isinstance) boot_isi1 h (by decide) (glB_d hg) hs hpl) hs hs2 ha
theorem fct_ofC {lev j : Nat} {st : Stmt} {ps N : List Str} {fd : FuncData} {body : S} {c : Addr} (F : FunD g.K nm nm (defArgs st) (defBody st) (defScope st) [] [] (g.fa j) fd) (hcode : fd.code = .ref c) (hq : nm ++ ".<locals>." ++ "<lambda>" = g.tq) (hm : mg nm = some (.ref (g.fa j))) (S : FnScope N ps (defScope st))
    (hb : ∀ (kV doc pm : Value) (an : Option Addr) (cdv ct : Value) (us : List Value), us.length = ps.length → bindArgs (PySem.W.fnOf nm nm (defArgs st) (defBody st) (defScope st) .none kV doc pm an cdv ct) ⟨us, []⟩ = pure (ps.zip us))
    (hw : ∀ {X : Cx} {fr : Fm} {E : Ex}, Cok g P w mg base lev fr E N (defScope st) true X → X.env.code = .ref c → X.env.qual ++ "<lambda>" = g.tq → PSs X (defBody st) (rds g m fr E body))
    (hs : ∀ ds M Q E, ds.length = ps.length → (m.fn j).run ds M Q E → ws m body E (startR N ds) M { nx := fun _ M' => Q .non M', rt := Q }) : Fct g m P w mg base (lev + 1) j nm st ps := by
  obtain ⟨oc, od, dV, kV, doc, pmv, an, cdv, ct, osl, rfl, lk, hcd, hD, hKw⟩ := id F.ex
  have ec : cdv = .ref c := hcode
  subst ec
  refine ⟨⟨_, fn_of lk hcd S (fun vs H Q E h => h.1) fun A outer s H vs Q E hr hsp => ?_, F, F.bindsN hb⟩, hm⟩
  obtain ⟨hl, Pm, al, M, ds, hP, ms, rs, run⟩ := hsp
  let fr : Fm := ⟨Pm, al, H⟩
  let E' : Ex := ends g Pm al H E
  let X0 := cxOf (L2.CX P w) P w g.K mg base N nm (defScope st) (g.fa j) (.ref c) A outer s H E
  have tk0 : Takes X0 (fun cls d _ H => E cls d H) := takes_of rfl rfl rfl rfl
  have tk : Takes X0 (fun cls d _ H => XkOf g fr E' cls d H) := tk0.imp fun cls d σ H' ⟨x, M', al', h1, h2, h3, h4⟩ => h1 cls d H' al' h2 h3 h4
  have C : Cok g P w mg base lev fr E' N (defScope st) true X0 :=
    ⟨S.nd, S.kind, rfl, rfl, rfl, rfl, rfl, rfl, rfl, hr, rfl, tk, passes_call tk fun _ _ _ _ h => h, (fun _ => passes_of rfl), (fun _ _ => rfl)⟩
  refine ⟨_, hw C rfl hq, fun _ => none, al, startR N ds, M, start_ok (fr := fr) hP ms rs, ws_mono body (hs ds M _ _ (by rw [← rs.length]; exact hl) run) (Le.refl _) ⟨fun r M' h σ' H' O' al' p s' => ?_, fun d M' h v H' al' gr ms' rv => h v H' al' gr ms' rv, fun _ _ h => h.elim, fun _ _ h => h.elim⟩⟩
  exact h .non H' al' s'.env.gr (s'.env.ms.weak fun b hb => .inl hb) rfl
theorem x_bad : PE X e (rd g m fr E .bad) := ⟨fun pins s σ H Q I ⟨B, O, al, r, M, st, q⟩ => (show False from q).elim⟩
end
end PV

set_option Elab.async false
set_option linter.all false
set_option maxRecDepth 100000
set_option maxHeartbeats 4000000
/-! PV part 18: for the plain laws: indices, loops, comprehensions. -/
namespace PV
open PySem PySem.Spec PyProof.Rows L2

theorem atI_nat {α : Type} {xs : List α} {n : Nat} : atI xs (n : Int) = xs[n]? := by
  unfold atI ixN
  rw [if_pos (by omega)]
  by_cases h : n < xs.length
  · rw [if_pos (by omega)]; rfl
  · rw [if_neg (by omega)]
    rw [List.getElem?_eq_none (by omega)]; rfl
theorem atI_0 {α : Type} {a : α} {l : List α} : atI (a :: l) 0 = some a := (atI_nat (n := 0)).trans rfl
theorem atI_1 {α : Type} {a b : α} {l : List α} : atI (a :: b :: l) 1 = some b := (atI_nat (n := 1)).trans rfl
theorem atI_2 {α : Type} {a b c : α} {l : List α} : atI (a :: b :: c :: l) 2 = some c := (atI_nat (n := 2)).trans rfl
theorem atI_n1 {α : Type} {l : List α} : atI l (-1) = l.getLast? := by
  unfold atI ixN
  rw [if_neg (by omega)]
  cases l with
  | nil => rfl
  | cons a l =>
    rw [if_pos (by simp; omega)]
    rw [List.getLast?_eq_getElem?]
    show (a :: l)[_]? = _
    congr 1
    simp only [List.length_cons]
    omega
/-- a for by an invariant of what is left -/
theorem for_inv {m : Sm} {t : Tg} {b : S} {E : Ex} {k : Kn} (I : List D → Ro → Ms → Prop) : ∀ {ds : List D} {r : Ro} {M : Ms}, I ds r M →
    (∀ d rest r M, I (d :: rest) r M → bt M t d r fun r' => ws m b E r' M { nx := I rest, rt := k.rt, bk := k.nx, ct := I rest }) → (∀ r M, I [] r M → k.nx r M) → fl (fun d r M k' => bt M t d r fun r' => ws m b E r' M k') ds r M k
  | [], r, M, h, _, hd => hd r M h
  | d :: ds, r, M, h, hs, hd => by
    show bt M t d r fun r' => ws m b E r' M { nx := fun r' M' => fl (fun d r M k' => bt M t d r fun r' => ws m b E r' M k') ds r' M' k, rt := k.rt, bk := k.nx, ct := fun r' M' => fl (fun d r M k' => bt M t d r fun r' => ws m b E r' M k') ds r' M' k }
    exact bt_mono (hs d ds r M h) fun r' q => ws_mono b q (Le.refl _) ⟨fun r M h => for_inv I h hs hd, fun _ _ h => h, fun _ _ h => h, fun r M h => for_inv I h hs hd⟩
/-- .. over what is told by other values -/
theorem for_map {α : Type} {m : Sm} {t : Tg} {b : S} {E : Ex} {k : Kn} (emb : α → D) (I : List α → Ro → Ms → Prop) : ∀ {L : List α} {r : Ro} {M : Ms}, I L r M →
    (∀ x rest r M, I (x :: rest) r M → bt M t (emb x) r fun r' => ws m b E r' M { nx := I rest, rt := k.rt, bk := k.nx, ct := I rest }) → (∀ r M, I [] r M → k.nx r M) → fl (fun d r M k' => bt M t d r fun r' => ws m b E r' M k') (L.map emb) r M k
  | [], r, M, h, _, hd => hd r M h
  | d :: ds, r, M, h, hs, hd => by
    show bt M t (emb d) r fun r' => ws m b E r' M { nx := fun r' M' => fl (fun d r M k' => bt M t d r fun r' => ws m b E r' M k') (ds.map emb) r' M' k, rt := k.rt, bk := k.nx, ct := fun r' M' => fl (fun d r M k' => bt M t d r fun r' => ws m b E r' M k') (ds.map emb) r' M' k }
    exact bt_mono (hs d ds r M h) fun r' q => ws_mono b q (Le.refl _) ⟨fun r M h => for_map emb I h hs hd, fun _ _ h => h, fun _ _ h => h, fun r M h => for_map emb I h hs hd⟩
/-- a comprehension whose turns change nothing -/
theorem cl_pure {step : D → Ms → (Option D → Ms → Prop) → Prop} (f : D → Option D) {M : Ms} {Q : List D → Ms → Prop} : ∀ {ds acc : List D}, (∀ d ∈ ds, ∀ K : Option D → Ms → Prop, K (f d) M → step d M K) → Q (acc ++ ds.filterMap f) M → cl step ds acc M Q
  | [], acc, _, q => by
    have e : acc ++ List.filterMap f [] = acc := by simp
    rw [e] at q; exact q
  | d :: ds, acc, h, q => by
    refine h d (by simp) _ ?_
    show cl step ds (match f d with
      | some e => acc ++ [e]
      | none => acc) M Q
    refine cl_pure f (fun d hd => h d (by simp [hd])) ?_
    cases e : f d with
    | none => rw [List.filterMap_cons_none e] at q; exact q
    | some z => rw [List.filterMap_cons_some e] at q; simpa using q
/-- .. over what is told by other values -/
theorem cl_map {α : Type} {step : D → Ms → (Option D → Ms → Prop) → Prop} (emb : α → D) (f : α → Option D) {M : Ms} {Q : List D → Ms → Prop} : ∀ {L : List α} {acc : List D}, (∀ x ∈ L, ∀ K : Option D → Ms → Prop, K (f x) M → step (emb x) M K) → Q (acc ++ L.filterMap f) M → cl step (L.map emb) acc M Q
  | [], acc, _, q => by
    have e : acc ++ List.filterMap f [] = acc := by simp
    rw [e] at q; exact q
  | d :: ds, acc, h, q => by
    refine h d (by simp) _ ?_
    show cl step (ds.map emb) (match f d with
      | some e => acc ++ [e]
      | none => acc) M Q
    refine cl_map emb f (fun d hd => h d (by simp [hd])) ?_
    cases e : f d with
    | none => rw [List.filterMap_cons_none e] at q; exact q
    | some z => rw [List.filterMap_cons_some e] at q; simpa using q
/-- .. whose turns keep an invariant -/
theorem cl_inv {step : D → Ms → (Option D → Ms → Prop) → Prop} (I : List D → List D → Ms → Prop) {Q : List D → Ms → Prop} : ∀ {ds acc : List D} {M : Ms}, I ds acc M →
    (∀ d rest acc M, I (d :: rest) acc M → step d M fun o M' => I rest (match o with
      | some e => acc ++ [e]
      | none => acc) M') → (∀ acc M, I [] acc M → Q acc M) → (∀ d M k k', step d M k → (∀ o M', k o M' → k' o M') → step d M k') → cl step ds acc M Q
  | [], acc, M, h, _, hd, _ => hd acc M h
  | d :: ds, acc, M, h, hs, hd, hm => hm _ _ _ _ (hs d ds acc M h) fun o M' q => cl_inv I q hs hd hm
theorem cturn_mono' {m : Sm} {own : List Nat} {t : Tg} {r : Ro} {c e : PV.X} : ∀ (d : D) (M : Ms) (k k' : Option D → Ms → Prop), cturn own t r (fun r' M => tst c M (wx m c noX r' M)) (fun r' M => wx m e noX r' M) d M k → (∀ o M', k o M' → k' o M') → cturn own t r (fun r' M => tst c M (wx m c noX r' M)) (fun r' M => wx m e noX r' M) d M k' :=
  fun d M k k' h q => cturn_mono (tc' := fun r' M => tst c M (wx m c noX r' M)) (te' := fun r' M => wx m e noX r' M) h (fun h q => tst_mono h (fun h q => wx_mono c h (Le.refl _) q) q) (fun h q => wx_mono e h (Le.refl _) q) q
theorem dEq_int {a b : Int} : dEq (.int a) (.int b) = (a == b) := rfl
theorem dOk_int {a : Int} : dOk (.int a) = true := rfl
theorem dDep_int {a : Int} : dDep (.int a) = 0 := rfl
mutual
theorem dEq_refl : ∀ (d : D), dOk d = true → dEq d d = true
  | .non, _ => rfl
  | .bl b, _ => by show (b == b) = true; simp
  | .int b, _ => by show (b == b) = true; simp
  | .str b, _ => by show (b == b) = true; simp
  | .tup xs, h => dEqs_refl xs h
  | .lst xs, h => dEqs_refl xs h
  | .scr _, h => by cases h
  | .fn _, h => by cases h
  | .exc _ _, h => by cases h
  | .tok _, h => by cases h
theorem dEqs_refl : ∀ (ds : List D), dOks ds = true → dEqs ds ds = true
  | [], _ => rfl
  | d :: ds, h => by
    have h' : (dOk d && dOks ds) = true := h
    rw [Bool.and_eq_true] at h'
    show (dEq d d && dEqs ds ds) = true
    rw [dEq_refl d h'.1, dEqs_refl ds h'.2]; rfl
end
end PV

set_option Elab.async false
set_option linter.all false
set_option maxRecDepth 100000
set_option maxHeartbeats 4000000
/-! PV part 19: the head: facts by names and own ones, the law's own code table. -/
namespace PV
open PySem PySem.Spec PyProof.Rows L2
/-! ### what is looked at -/
def obsX (own : PySem.W.Frag → Bool) (fa : List He.Fa) (fn : List He.DefD) (K : PySem.W.Frag) : Bool × He.AlD := (own K, He.obsD fa fn K)
def hookX (n : Nat) (own : PySem.W.Frag → Bool) (fa : List He.Fa) (fn : List He.DefD) : PySem.W.Hook where
  α := Bool × He.AlD
  obs := fun t => obsX own fa fn (He.frG t.heap.get? (He.asD t.heap.get? n))
  val := fun _ => (true, He.valD fn)
  says := fun _ hp => ∃ K : PySem.W.Frag, K.In hp ∧ own K = true ∧ He.SaysD fa fn K
  of := fun _ t e => ⟨He.frG t.heap.get? (He.asD t.heap.get? n), He.frG_in, congrArg Prod.fst e, congrArg Prod.snd e⟩
  keeps := fun _ _ _ ⟨K, inK, o, c⟩ kp => ⟨K, PySem.W.Frag.In.keeps inK kp, o, c⟩
def obsXG (n : Nat) (own : PySem.W.Frag → Bool) (fa : List He.Fa) (fn : List He.DefD) (look : Addr → Option Obj) : Bool × He.AlD := obsX own fa fn (He.frG look (He.asD look n))
theorem obsXG_eq {n : Nat} {own : PySem.W.Frag → Bool} {fa : List He.Fa} {fn : List He.DefD} {look : Addr → Option Obj} {t : Shared} (h : ∀ a, look a = t.heap.get? a) : obsXG n own fa fn look = (hookX n own fa fn).obs t := by
  obtain rfl : look = t.heap.get? := funext h
  rfl
/-! ### the walk -/
/-- the def at f, its code object and the table of it, empty -/
def TabOf (h : Heap) (f c T : Addr) (fd : FuncData) : Prop := ∃ o, h.get? f = some o ∧ o.data = .func fd ∧ fd.code = .ref c ∧ PySem.W.CodeHd h c T ∧ h.get? T = some { cls := .none, data := .fields #[] }
theorem walk_tab {l : PySem.W.OpenLaw} {n k : Nat} {q : Program} {loose : List Str} {XP : (Str → Option Value) → Heap → Prop} {YP : World → Heap → Prop} {d : DefRec} {CX : World → CXT} {x : Str}
    (most : l.most = some n) (fits : n ≤ sizeLine) (plain : d.params.defaults = []) (room : Room k callerA) (rec_ : ((recsOf q).any fun e => e.name == d.name) = true)
    (F : ∀ (w : World) (mg : Str → Option Value) (f : Addr) (h : Heap), YP w h → h.Ns mainGlobals mg → mg d.name = some (.ref f) → (∃ c T fd, TabOf h f c T fd) → ∃ K : PySem.W.Frag, K.In h ∧ LamX.LawAtS l w K (CX w) k n x mg f h)
    (calm : ∀ (w : World) (H : Hp) (t : Shared) (e : Value) (t' : Shared), CX w [] H t (fun _ _ _ => False) e t' → False) :
    PySem.W.WalkO q loose XP YP l.row.toRowW d [] (fun f vs => PySem.call f vs) := by
  refine Att.attach_callB most plain fun w t0 t1 mg mb f o pm cd doc a vs ns G Y atf hd hcd hmg hobj hints hlen hbits hg => ?_
  obtain ⟨e, he, hn⟩ := List.any_eq_true.mp rec_
  have hn : e.name = d.name := beq_iff_eq.mp hn
  obtain ⟨f', o', fd', c, T, q1, q2, q3, q4, q5, q6⟩ := G.T.tab e he
  rw [hn, hmg] at q1
  cases q1
  obtain ⟨K, inK, fd, cs, sp, z1, z2, z3, z4, z5, z6⟩ := F w mg f _ Y G.T.g hmg ⟨c, T, fd', o', q2, q3, q4, PySem.W.CodeHd.of q5 q6, q6.2⟩
  exact LamX.law_callTs inK G.T.g G.T.b G.T.builtins G.T.nolimit hg z1 z2 z3 G.T.bmain hobj hints (Nat.le_trans hlen fits) room z6 z4 (fun H hH hS => z5 H a ns hlen hbits hH hS) fun H u t => calm w H t1 u t
/-! ### the law's promise at the start -/
section
variable {g : GC} {H : Hp} {a : Addr} {ns : List Int} {f : Spec} {Q : VK} {E : XK}
theorem sp_start (hT : H g.tb = some (.tbl #[])) (hS : SqL g.K H a (ns.map V.int)) (run : ∀ E', f.run [.scr ns] [.tab g.tq] (Post g (fun _ => False) [g.tb] H Q) E') : spOf g 1 f [.ref a] H Q E := by
  refine ⟨rfl, fun _ => False, [g.tb], [.tab g.tq], [.scr ns], fun _ h => h.elim, ⟨rfl, by simp, fun k b mo h1 h2 => ?_⟩, ?_, run _⟩
  · match k with
    | 0 =>
      cases h1
      cases h2
      refine ⟨⟨rfl, rfl⟩, #[], hT, trivial, fun pos cv h => ?_⟩
      cases h
    | k + 1 => cases h1
  · refine ⟨.ref a, [], rfl, ⟨a, rfl, ?_⟩, rfl⟩
    rcases hS with (h | ⟨o, h⟩) | h
    · refine .inl (.inl ?_)
      refine (msk_of fun z => ?_).trans h
      rcases z with z | z
      · exact z
      · rw [List.mem_singleton.mp z, hT] at h
        cases h
    · refine .inl (.inr ⟨o, ?_⟩)
      refine (msk_of fun z => ?_).trans h
      rcases z with z | z
      · exact z
      · rw [List.mem_singleton.mp z, hT] at h
        cases h
    · exact .inr h
end
end PV

set_option Elab.async false
set_option linter.all false
set_option maxRecDepth 100000
set_option maxHeartbeats 4000000
namespace K75
open PySem PySem.Spec PyProof.Rows L2 PV
abbrev S := PV.S
def top (i : Nat) : Stmt := PySem.Challenge.pw_chancebounds_k75_whole_chances_by_a_spre.main.body.getD i (.Pass ⟨0, 0, 0, 0⟩)
section
variable {g : GC} {m : Sm} {P : Program} {w : World} {mg : Str → Option Value} {base : Heap} {fr : Fm} {E : Ex} {X : Cx}
abbrev st_is_whole : Stmt := top 9
abbrev ps_is_whole : List Str := ["value"]
abbrev st_is_ratio : Stmt := top 10
abbrev ps_is_ratio : List Str := ["value"]
abbrev st_is_chance : Stmt := top 11
abbrev ps_is_chance : List Str := ["value"]
abbrev st_lowest : Stmt := top 12
abbrev ps_lowest : List Str := ["n", "d"]
abbrev st_plus : Stmt := top 13
abbrev ps_plus : List Str := ["one", "other"]
abbrev st_minus : Stmt := top 14
abbrev ps_minus : List Str := ["one", "other"]
abbrev st_times : Stmt := top 15
abbrev ps_times : List Str := ["one", "other"]
abbrev st_over : Stmt := top 16
abbrev ps_over : List Str := ["one", "other"]
abbrev st_is_less : Stmt := top 17
abbrev ps_is_less : List Str := ["one", "other"]
abbrev st_total : Stmt := top 18
abbrev ps_total : List Str := ["ratios"]
abbrev st_least_of : Stmt := top 19
abbrev ps_least_of : List Str := ["ratios"]
abbrev st_are_numbers : Stmt := top 23
abbrev ps_are_numbers : List Str := ["value"]
abbrev st_need_numbers : Stmt := top 24
abbrev ps_need_numbers : List Str := ["numbers"]
abbrev st_mean_spread : Stmt := top 25
abbrev ps_mean_spread : List Str := ["numbers"]
abbrev st_middles : Stmt := top 26
abbrev ps_middles : List Str := ["numbers"]
abbrev st_need_spread : Stmt := top 27
abbrev ps_need_spread : List Str := ["spread", "gap"]
abbrev st_one_side : Stmt := top 28
abbrev ps_one_side : List Str := ["spread", "gap"]
abbrev st_spread_chance : Stmt := top 29
abbrev ps_spread_chance : List Str := ["spread", "gap"]
abbrev st_both_chance : Stmt := top 30
abbrev ps_both_chance : List Str := ["spread", "gap"]
abbrev st_spread_numbers : Stmt := top 31
abbrev ps_spread_numbers : List Str := ["spread", "gap"]
abbrev st__law_begun : Stmt := top 33
abbrev ps__law_begun : List Str := ["script"]
abbrev st__law_blended : Stmt := top 34
abbrev ps__law_blended : List Str := ["state"]
abbrev st__law_draw : Stmt := top 35
abbrev ps__law_draw : List Str := ["state", "room"]
abbrev st__law_pick : Stmt := top 36
abbrev ps__law_pick : List Str := ["state", "some"]
abbrev st__law_caught : Stmt := top 37
abbrev ps__law_caught : List Str := ["action"]
abbrev st__law_is_truth : Stmt := top 38
abbrev ps__law_is_truth : List Str := ["found", "due"]
abbrev st__law_same : Stmt := top 39
abbrev ps__law_same : List Str := ["found", "due"]
abbrev st__law_q : Stmt := top 40
abbrev ps__law_q : List Str := ["n", "d"]
abbrev st__law_plus : Stmt := top 41
abbrev ps__law_plus : List Str := ["one", "other"]
abbrev st__law_minus : Stmt := top 42
abbrev ps__law_minus : List Str := ["one", "other"]
abbrev st__law_times : Stmt := top 43
abbrev ps__law_times : List Str := ["one", "other"]
abbrev st__law_over : Stmt := top 44
abbrev ps__law_over : List Str := ["one", "other"]
abbrev st__law_less : Stmt := top 45
abbrev ps__law_less : List Str := ["one", "other"]
abbrev st__law_sum : Stmt := top 46
abbrev ps__law_sum : List Str := ["some"]
abbrev st__law_number : Stmt := top 47
abbrev ps__law_number : List Str := ["draws", "size"]
abbrev st__law_le_marks : Stmt := top 48
abbrev ps__law_le_marks : List Str := ["draws", "most"]
abbrev st__law_le_square : Stmt := top 49
abbrev ps__law_le_square : List Str := ["mark"]
abbrev st__law_le_numbers : Stmt := top 50
abbrev ps__law_le_numbers : List Str := ["draws", "most"]
abbrev st__law_k75_off : Stmt := top 51
abbrev ps__law_k75_off : List Str := ["numbers", "mean"]
abbrev st__law_k75_kind : Stmt := top 52
abbrev ps__law_k75_kind : List Str := ["error"]
abbrev st_law : Stmt := top 53
abbrev ps_law : List Str := ["script"]
abbrev N_is_whole : List Str := ["value"]
def S_is_whole : S := (.ret (.an (.isi [.int] (.v 0)) (.nt (.isi [.bool] (.v 0)))))
theorem w_is_whole (B : Blt mg) (C : Cok g P w mg base 0 fr E N_is_whole (defScope st_is_whole) true X) : PSs X (defBody st_is_whole) (rds g m fr E S_is_whole) :=
  (s_one (s_ret (n_an (n_isi C B (by decide +kernel) rfl rfl rfl rfl (n_v C (by decide +kernel)) (n_ty C B.int boot1_int (by decide) (by decide +kernel) rfl)) (n_an1 (n_nt (n_isi C B (by decide +kernel) rfl rfl rfl rfl (n_v C (by decide +kernel)) (n_ty C B.bool boot1_bool (by decide) (by decide +kernel) rfl)))))))
abbrev N_is_ratio : List Str := ["value", "part"]
def S_is_ratio : S := (.seq (.ife (.or (.nt (.isi [.tup] (.v 0))) (.or (.p2 .ne (.p1 .len (.v 0)) (.int 2)) (.nt (.p1 .all (.comp [1] (.call 0 (.cons (.v 1) .nil)) (.nm 1) (.iseq (.v 0)) .nil))))) (.ret (.bl false)) .skip) (.ret (.an (.p2 .gt (.p2 .ix (.v 0) (.int 1)) (.int 0)) (.p2 .eq (.p2 .gcd (.p2 .ix (.v 0) (.int 0)) (.p2 .ix (.v 0) (.int 1))) (.int 1)))))
theorem w_is_ratio (B : Blt mg) (Hgcd : mg "gcd" = some (.builtin "math.gcd")) (F_is_whole : Fct g m P w mg base 1 0 "is_whole" st_is_whole ps_is_whole) (C : Cok g P w mg base 1 fr E N_is_ratio (defScope st_is_ratio) true X) : PSs X (defBody st_is_ratio) (rds g m fr E S_is_ratio) :=
  (s_seq (s_if (t_w (t_or (t_nt (t_val (fun _ => rfl) (n_isi C B (by decide +kernel) rfl rfl rfl rfl (n_v C (by decide +kernel)) (n_ty C B.tuple boot1_tuple (by decide) (by decide +kernel) rfl)))) (t_or (t_cmp C rfl (nomark _) (n_o rfl (n_len C B (by decide +kernel) rfl (n_o rfl (n_v C (by decide +kernel))))) (n_o rfl n_int)) (t_or1 (t_nt (t_val (fun _ => rfl) (n_all C B (by decide +kernel) rfl (n_o rfl (n_lc C rfl (n_comp (own := [("part", 1)]) C (by decide +kernel) rfl  (i_seq C (w_t (n_o rfl (n_v C (by decide +kernel))))) (fun {_} C1 => (g_nm C1 (by decide +kernel))) (fun {_} C1 => c_nil) (fun {_} C1 => (n_call C1 F_is_whole (by decide +kernel) rfl rfl rfl (n_cons rfl (n_v C1 (by decide +kernel)) n_nil))) (fun _ => rfl))))))))))) (s_one (s_ret n_bl)) s_skip)
  (s_one (s_ret (n_an (n_cmp C rfl (nomark _) (n_o rfl (n_ix C (fun _ _ => rfl) (n_o rfl (n_v C (by decide +kernel))) (n_o rfl n_int))) (n_o rfl n_int)) (n_an1 (n_cmp C rfl (nomark _) (n_o rfl (n_gcd C Hgcd (by decide +kernel) rfl rfl rfl (n_o rfl (n_ix C (fun _ _ => rfl) (n_o rfl (n_v C (by decide +kernel))) (n_o rfl n_int))) (n_o rfl (n_ix C (fun _ _ => rfl) (n_o rfl (n_v C (by decide +kernel))) (n_o rfl n_int))))) (n_o rfl n_int)))))))
abbrev N_is_chance : List Str := ["value"]
def S_is_chance : S := (.ret (.an (.call 1 (.cons (.v 0) .nil)) (.chn .le .le (.int 0) (.p2 .ix (.v 0) (.int 0)) (.p2 .ix (.v 0) (.int 1)))))
theorem w_is_chance (F_is_ratio : Fct g m P w mg base 2 1 "is_ratio" st_is_ratio ps_is_ratio) (C : Cok g P w mg base 2 fr E N_is_chance (defScope st_is_chance) true X) : PSs X (defBody st_is_chance) (rds g m fr E S_is_chance) :=
  (s_one (s_ret (n_an (n_call C F_is_ratio (by decide +kernel) rfl rfl rfl (n_cons rfl (n_v C (by decide +kernel)) n_nil)) (n_an1 (n_chn C rfl rfl (by with_unfolding_all rfl) (n_o rfl n_int) (n_o rfl (n_ix C (fun _ _ => rfl) (n_o rfl (n_v C (by decide +kernel))) (n_o rfl n_int))) (n_o rfl (n_ix C (fun _ _ => rfl) (n_o rfl (n_v C (by decide +kernel))) (n_o rfl n_int))))))))
abbrev N_lowest : List Str := ["n", "d", "common"]
def S_lowest : S := (.seq (.asg (.nm 2) (.ife (.p2 .gt (.v 1) (.int 0)) (.p2 .gcd (.v 0) (.v 1)) (.p1 .neg (.p2 .gcd (.v 0) (.v 1))))) (.ret (.tup (.cons (.p2 .fdiv (.v 0) (.v 2)) (.cons (.p2 .fdiv (.v 1) (.v 2)) .nil)))))
theorem w_lowest (Hgcd : mg "gcd" = some (.builtin "math.gcd")) (C : Cok g P w mg base 0 fr E N_lowest (defScope st_lowest) true X) : PSs X (defBody st_lowest) (rds g m fr E S_lowest) :=
  (s_seq (s_asg C rfl rfl rfl (g_nm C (by decide +kernel)) (n_ife (t_cmp C rfl (nomark _) (n_o rfl (n_v C (by decide +kernel))) (n_o rfl n_int)) (n_gcd C Hgcd (by decide +kernel) rfl rfl rfl (n_o rfl (n_v C (by decide +kernel))) (n_o rfl (n_v C (by decide +kernel)))) (n_neg C (n_o rfl (n_gcd C Hgcd (by decide +kernel) rfl rfl rfl (n_o rfl (n_v C (by decide +kernel))) (n_o rfl (n_v C (by decide +kernel))))))))
  (s_one (s_ret (n_tup (n_cons rfl (n_bin C rfl (n_o rfl (n_v C (by decide +kernel))) (n_o rfl (n_v C (by decide +kernel)))) (n_cons rfl (n_bin C rfl (n_o rfl (n_v C (by decide +kernel))) (n_o rfl (n_v C (by decide +kernel)))) n_nil))))))
abbrev N_plus : List Str := ["one", "other"]
def S_plus : S := (.ret (.call 3 (.cons (.p2 .add (.p2 .mul (.p2 .ix (.v 0) (.int 0)) (.p2 .ix (.v 1) (.int 1))) (.p2 .mul (.p2 .ix (.v 1) (.int 0)) (.p2 .ix (.v 0) (.int 1)))) (.cons (.p2 .mul (.p2 .ix (.v 0) (.int 1)) (.p2 .ix (.v 1) (.int 1))) .nil))))
theorem w_plus (F_lowest : Fct g m P w mg base 1 3 "lowest" st_lowest ps_lowest) (C : Cok g P w mg base 1 fr E N_plus (defScope st_plus) true X) : PSs X (defBody st_plus) (rds g m fr E S_plus) :=
  (s_one (s_ret (n_call C F_lowest (by decide +kernel) rfl rfl rfl (n_cons rfl (n_bin C rfl (n_o rfl (n_bin C rfl (n_o rfl (n_ix C (fun _ _ => rfl) (n_o rfl (n_v C (by decide +kernel))) (n_o rfl n_int))) (n_o rfl (n_ix C (fun _ _ => rfl) (n_o rfl (n_v C (by decide +kernel))) (n_o rfl n_int))))) (n_o rfl (n_bin C rfl (n_o rfl (n_ix C (fun _ _ => rfl) (n_o rfl (n_v C (by decide +kernel))) (n_o rfl n_int))) (n_o rfl (n_ix C (fun _ _ => rfl) (n_o rfl (n_v C (by decide +kernel))) (n_o rfl n_int)))))) (n_cons rfl (n_bin C rfl (n_o rfl (n_ix C (fun _ _ => rfl) (n_o rfl (n_v C (by decide +kernel))) (n_o rfl n_int))) (n_o rfl (n_ix C (fun _ _ => rfl) (n_o rfl (n_v C (by decide +kernel))) (n_o rfl n_int)))) n_nil)))))
abbrev N_minus : List Str := ["one", "other"]
def S_minus : S := (.ret (.call 3 (.cons (.p2 .sub (.p2 .mul (.p2 .ix (.v 0) (.int 0)) (.p2 .ix (.v 1) (.int 1))) (.p2 .mul (.p2 .ix (.v 1) (.int 0)) (.p2 .ix (.v 0) (.int 1)))) (.cons (.p2 .mul (.p2 .ix (.v 0) (.int 1)) (.p2 .ix (.v 1) (.int 1))) .nil))))
theorem w_minus (F_lowest : Fct g m P w mg base 1 3 "lowest" st_lowest ps_lowest) (C : Cok g P w mg base 1 fr E N_minus (defScope st_minus) true X) : PSs X (defBody st_minus) (rds g m fr E S_minus) :=
  (s_one (s_ret (n_call C F_lowest (by decide +kernel) rfl rfl rfl (n_cons rfl (n_bin C rfl (n_o rfl (n_bin C rfl (n_o rfl (n_ix C (fun _ _ => rfl) (n_o rfl (n_v C (by decide +kernel))) (n_o rfl n_int))) (n_o rfl (n_ix C (fun _ _ => rfl) (n_o rfl (n_v C (by decide +kernel))) (n_o rfl n_int))))) (n_o rfl (n_bin C rfl (n_o rfl (n_ix C (fun _ _ => rfl) (n_o rfl (n_v C (by decide +kernel))) (n_o rfl n_int))) (n_o rfl (n_ix C (fun _ _ => rfl) (n_o rfl (n_v C (by decide +kernel))) (n_o rfl n_int)))))) (n_cons rfl (n_bin C rfl (n_o rfl (n_ix C (fun _ _ => rfl) (n_o rfl (n_v C (by decide +kernel))) (n_o rfl n_int))) (n_o rfl (n_ix C (fun _ _ => rfl) (n_o rfl (n_v C (by decide +kernel))) (n_o rfl n_int)))) n_nil)))))
abbrev N_times : List Str := ["one", "other"]
def S_times : S := (.ret (.call 3 (.cons (.p2 .mul (.p2 .ix (.v 0) (.int 0)) (.p2 .ix (.v 1) (.int 0))) (.cons (.p2 .mul (.p2 .ix (.v 0) (.int 1)) (.p2 .ix (.v 1) (.int 1))) .nil))))
theorem w_times (F_lowest : Fct g m P w mg base 1 3 "lowest" st_lowest ps_lowest) (C : Cok g P w mg base 1 fr E N_times (defScope st_times) true X) : PSs X (defBody st_times) (rds g m fr E S_times) :=
  (s_one (s_ret (n_call C F_lowest (by decide +kernel) rfl rfl rfl (n_cons rfl (n_bin C rfl (n_o rfl (n_ix C (fun _ _ => rfl) (n_o rfl (n_v C (by decide +kernel))) (n_o rfl n_int))) (n_o rfl (n_ix C (fun _ _ => rfl) (n_o rfl (n_v C (by decide +kernel))) (n_o rfl n_int)))) (n_cons rfl (n_bin C rfl (n_o rfl (n_ix C (fun _ _ => rfl) (n_o rfl (n_v C (by decide +kernel))) (n_o rfl n_int))) (n_o rfl (n_ix C (fun _ _ => rfl) (n_o rfl (n_v C (by decide +kernel))) (n_o rfl n_int)))) n_nil)))))
abbrev N_over : List Str := ["one", "other"]
def S_over : S := (.ret (.call 3 (.cons (.p2 .mul (.p2 .ix (.v 0) (.int 0)) (.p2 .ix (.v 1) (.int 1))) (.cons (.p2 .mul (.p2 .ix (.v 0) (.int 1)) (.p2 .ix (.v 1) (.int 0))) .nil))))
theorem w_over (F_lowest : Fct g m P w mg base 1 3 "lowest" st_lowest ps_lowest) (C : Cok g P w mg base 1 fr E N_over (defScope st_over) true X) : PSs X (defBody st_over) (rds g m fr E S_over) :=
  (s_one (s_ret (n_call C F_lowest (by decide +kernel) rfl rfl rfl (n_cons rfl (n_bin C rfl (n_o rfl (n_ix C (fun _ _ => rfl) (n_o rfl (n_v C (by decide +kernel))) (n_o rfl n_int))) (n_o rfl (n_ix C (fun _ _ => rfl) (n_o rfl (n_v C (by decide +kernel))) (n_o rfl n_int)))) (n_cons rfl (n_bin C rfl (n_o rfl (n_ix C (fun _ _ => rfl) (n_o rfl (n_v C (by decide +kernel))) (n_o rfl n_int))) (n_o rfl (n_ix C (fun _ _ => rfl) (n_o rfl (n_v C (by decide +kernel))) (n_o rfl n_int)))) n_nil)))))
abbrev N_is_less : List Str := ["one", "other"]
def S_is_less : S := (.ret (.p2 .lt (.p2 .mul (.p2 .ix (.v 0) (.int 0)) (.p2 .ix (.v 1) (.int 1))) (.p2 .mul (.p2 .ix (.v 1) (.int 0)) (.p2 .ix (.v 0) (.int 1)))))
theorem w_is_less  (C : Cok g P w mg base 0 fr E N_is_less (defScope st_is_less) true X) : PSs X (defBody st_is_less) (rds g m fr E S_is_less) :=
  (s_one (s_ret (n_cmp C rfl (nomark _) (n_o rfl (n_bin C rfl (n_o rfl (n_ix C (fun _ _ => rfl) (n_o rfl (n_v C (by decide +kernel))) (n_o rfl n_int))) (n_o rfl (n_ix C (fun _ _ => rfl) (n_o rfl (n_v C (by decide +kernel))) (n_o rfl n_int))))) (n_o rfl (n_bin C rfl (n_o rfl (n_ix C (fun _ _ => rfl) (n_o rfl (n_v C (by decide +kernel))) (n_o rfl n_int))) (n_o rfl (n_ix C (fun _ _ => rfl) (n_o rfl (n_v C (by decide +kernel))) (n_o rfl n_int))))))))
abbrev N_total : List Str := ["ratios", "found", "each"]
def B_total_1 : S := (.asg (.nm 1) (.call 4 (.cons (.v 1) (.cons (.v 2) .nil))))
def S_total : S := (.seq (.asg (.nm 1) (.glo 0)) (.seq (.for_ (.nm 2) (.iseq (.v 0)) B_total_1) (.ret (.v 1))))
theorem w_total (F_plus : Fct g m P w mg base 2 4 "plus" st_plus ps_plus) (G_ZERO : GloF g m mg 0 "ZERO") (C : Cok g P w mg base 2 fr E N_total (defScope st_total) true X) : PSs X (defBody st_total) (rds g m fr E S_total) :=
  (s_seq (s_asg C rfl rfl rfl (g_nm C (by decide +kernel)) (n_glo C G_ZERO (by decide +kernel)))
  (s_seq (s_for C rfl (fun _ => rfl) (i_seq C (w_f rfl (n_v C (by decide +kernel)))) (g_nm C (by decide +kernel)) (s_one (s_asg C rfl rfl rfl (g_nm C (by decide +kernel)) (n_call C F_plus (by decide +kernel) rfl rfl rfl (n_cons rfl (n_v C (by decide +kernel)) (n_cons rfl (n_v C (by decide +kernel)) n_nil))))))
  (s_one (s_ret (n_v C (by decide +kernel))))))
abbrev N_least_of : List Str := ["ratios", "found", "each"]
def B_least_of_1 : S := (.asg (.nm 1) (.ife (.call 8 (.cons (.v 2) (.cons (.v 1) .nil))) (.v 2) (.v 1)))
def S_least_of : S := (.seq (.asg (.nm 1) (.p2 .ix (.v 0) (.int 0))) (.seq (.for_ (.nm 2) (.iseq (.sl (.v 0) (.int 1) .nil)) B_least_of_1) (.ret (.v 1))))
theorem w_least_of (F_is_less : Fct g m P w mg base 1 8 "is_less" st_is_less ps_is_less) (C : Cok g P w mg base 1 fr E N_least_of (defScope st_least_of) true X) : PSs X (defBody st_least_of) (rds g m fr E S_least_of) :=
  (s_seq (s_asg C rfl rfl rfl (g_nm C (by decide +kernel)) (n_ix C (fun _ _ => rfl) (n_o rfl (n_v C (by decide +kernel))) (n_o rfl n_int)))
  (s_seq (s_for C rfl (fun _ => rfl) (i_seq C (w_f rfl (n_sl C (n_o rfl (n_v C (by decide +kernel))) (n_pso rfl n_int) n_pno))) (g_nm C (by decide +kernel)) (s_one (s_asg C rfl rfl rfl (g_nm C (by decide +kernel)) (n_ife (t_val (fun _ => rfl) (n_call C F_is_less (by decide +kernel) rfl rfl rfl (n_cons rfl (n_v C (by decide +kernel)) (n_cons rfl (n_v C (by decide +kernel)) n_nil)))) (n_v C (by decide +kernel)) (n_v C (by decide +kernel))))))
  (s_one (s_ret (n_v C (by decide +kernel))))))
abbrev N_are_numbers : List Str := ["value", "pair", "one", "other"]
def S_are_numbers : S := (.seq (.ife (.or (.nt (.isi [.tup] (.v 0))) (.nt (.chn .le .le (.int 1) (.p1 .len (.v 0)) (.glo 2)))) (.ret (.bl false)) .skip) (.seq (.ife (.nt (.p1 .all (.comp [1] (.an (.isi [.tup] (.v 1)) (.p2 .eq (.p1 .len (.v 1)) (.int 2))) (.nm 1) (.iseq (.v 0)) .nil))) (.ret (.bl false)) .skip) (.seq (.ife (.nt (.p1 .all (.comp [1] (.an (.call 1 (.cons (.p2 .ix (.v 1) (.int 0)) .nil)) (.an (.call 2 (.cons (.p2 .ix (.v 1) (.int 1)) .nil)) (.p2 .gt (.p2 .ix (.p2 .ix (.v 1) (.int 1)) (.int 0)) (.int 0)))) (.nm 1) (.iseq (.v 0)) .nil))) (.ret (.bl false)) .skip) (.seq (.ife (.nt (.p1 .all (.comp [2, 3] (.call 8 (.cons (.p2 .ix (.v 2) (.int 0)) (.cons (.p2 .ix (.v 3) (.int 0)) .nil))) (.tp [2, 3]) (.izip (.v 0) (.sl (.v 0) (.int 1) .nil)) .nil))) (.ret (.bl false)) .skip) (.ret (.p2 .eq (.call 9 (.cons (.comp [1] (.p2 .ix (.v 1) (.int 1)) (.nm 1) (.iseq (.v 0)) .nil) .nil)) (.glo 1)))))))
theorem w_are_numbers (B : Blt mg) (F_is_ratio : Fct g m P w mg base 2 1 "is_ratio" st_is_ratio ps_is_ratio) (F_is_chance : Fct g m P w mg base 3 2 "is_chance" st_is_chance ps_is_chance) (F_is_less : Fct g m P w mg base 1 8 "is_less" st_is_less ps_is_less) (F_total : Fct g m P w mg base 3 9 "total" st_total ps_total) (G_MOST_NUMBERS : GloF g m mg 2 "MOST_NUMBERS") (G_ONE : GloF g m mg 1 "ONE") (C : Cok g P w mg base 3 fr E N_are_numbers (defScope st_are_numbers) true X) : PSs X (defBody st_are_numbers) (rds g m fr E S_are_numbers) :=
  (s_seq (s_if (t_w (t_or (t_nt (t_val (fun _ => rfl) (n_isi C B (by decide +kernel) rfl rfl rfl rfl (n_v C (by decide +kernel)) (n_ty C B.tuple boot1_tuple (by decide) (by decide +kernel) rfl)))) (t_or1 (t_nt (t_chn C rfl rfl (by with_unfolding_all rfl) (n_o rfl n_int) (n_o rfl (n_len C B (by decide +kernel) rfl (n_o rfl (n_v C (by decide +kernel))))) (n_o rfl (n_glo C G_MOST_NUMBERS (by decide +kernel)))))))) (s_one (s_ret n_bl)) s_skip)
  (s_seq (s_if (t_nt (t_val (fun _ => rfl) (n_all C B (by decide +kernel) rfl (n_o rfl (n_lc C rfl (n_comp (own := [("pair", 1)]) C (by decide +kernel) rfl  (i_seq C (w_t (n_o rfl (n_v C (by decide +kernel))))) (fun {_} C1 => (g_nm C1 (by decide +kernel))) (fun {_} C1 => c_nil) (fun {_} C1 => (n_an (n_isi C1 B (by decide +kernel) rfl rfl rfl rfl (n_v C1 (by decide +kernel)) (n_ty C1 B.tuple boot1_tuple (by decide) (by decide +kernel) rfl)) (n_an1 (n_cmp C1 rfl (nomark _) (n_o rfl (n_len C1 B (by decide +kernel) rfl (n_o rfl (n_v C1 (by decide +kernel))))) (n_o rfl n_int))))) (fun _ => rfl))))))) (s_one (s_ret n_bl)) s_skip)
  (s_seq (s_if (t_nt (t_val (fun _ => rfl) (n_all C B (by decide +kernel) rfl (n_o rfl (n_lc C rfl (n_comp (own := [("pair", 1)]) C (by decide +kernel) rfl  (i_seq C (w_t (n_o rfl (n_v C (by decide +kernel))))) (fun {_} C1 => (g_nm C1 (by decide +kernel))) (fun {_} C1 => c_nil) (fun {_} C1 => (n_an (n_call C1 F_is_ratio (by decide +kernel) rfl rfl rfl (n_cons rfl (n_ix C1 (fun _ _ => rfl) (n_o rfl (n_v C1 (by decide +kernel))) (n_o rfl n_int)) n_nil)) (n_an (n_call C1 F_is_chance (by decide +kernel) rfl rfl rfl (n_cons rfl (n_ix C1 (fun _ _ => rfl) (n_o rfl (n_v C1 (by decide +kernel))) (n_o rfl n_int)) n_nil)) (n_an1 (n_cmp C1 rfl (nomark _) (n_o rfl (n_ix C1 (fun _ _ => rfl) (n_o rfl (n_ix C1 (fun _ _ => rfl) (n_o rfl (n_v C1 (by decide +kernel))) (n_o rfl n_int))) (n_o rfl n_int))) (n_o rfl n_int)))))) (fun _ => rfl))))))) (s_one (s_ret n_bl)) s_skip)
  (s_seq (s_if (t_nt (t_val (fun _ => rfl) (n_all C B (by decide +kernel) rfl (n_o rfl (n_lc C rfl (n_comp (own := [("one", 2), ("other", 3)]) C (by decide +kernel) rfl  (i_zip C B (by decide +kernel) rfl rfl rfl (w_t (n_o rfl (n_v C (by decide +kernel)))) (w_t (n_o rfl (n_sl C (n_o rfl (n_v C (by decide +kernel))) (n_pso rfl n_int) n_pno)))) (fun {_} C1 => (g_tp C1 rfl rfl (g_cons C1 (by decide +kernel) (g_cons C1 (by decide +kernel) g_nil rfl) rfl))) (fun {_} C1 => c_nil) (fun {_} C1 => (n_call C1 F_is_less (by decide +kernel) rfl rfl rfl (n_cons rfl (n_ix C1 (fun _ _ => rfl) (n_o rfl (n_v C1 (by decide +kernel))) (n_o rfl n_int)) (n_cons rfl (n_ix C1 (fun _ _ => rfl) (n_o rfl (n_v C1 (by decide +kernel))) (n_o rfl n_int)) n_nil)))) (fun _ => rfl))))))) (s_one (s_ret n_bl)) s_skip)
  (s_one (s_ret (n_cmp C rfl (nomark _) (n_o rfl (n_call C F_total (by decide +kernel) rfl rfl rfl (n_cons rfl (n_lc C rfl (n_comp (own := [("pair", 1)]) C (by decide +kernel) rfl  (i_seq C (w_t (n_o rfl (n_v C (by decide +kernel))))) (fun {_} C1 => (g_nm C1 (by decide +kernel))) (fun {_} C1 => c_nil) (fun {_} C1 => (n_ix C1 (fun _ _ => rfl) (n_o rfl (n_v C1 (by decide +kernel))) (n_o rfl n_int))) (fun _ => rfl))) n_nil))) (n_o rfl (n_glo C G_ONE (by decide +kernel))))))))))
abbrev N_need_numbers : List Str := ["numbers"]
def S_need_numbers : S := (.ife (.nt (.call 11 (.cons (.v 0) .nil))) (.rais 1 (.cons (.str "rising points with chances are needed") .nil)) .skip)
theorem w_need_numbers (F_are_numbers : Fct g m P w mg base 4 11 "are_numbers" st_are_numbers ps_are_numbers) (EF_BadNumbers : ExF g mg 1 "BadNumbers") (EK : ∀ n, m.kept n = false) (C : Cok g P w mg base 4 fr E N_need_numbers (defScope st_need_numbers) true X) : PSs X (defBody st_need_numbers) (rds g m fr E S_need_numbers) :=
  (s_one (s_if (t_nt (t_val (fun _ => rfl) (n_call C F_are_numbers (by decide +kernel) rfl rfl rfl (n_cons rfl (n_v C (by decide +kernel)) n_nil)))) (s_one (s_rais C (EK 1) (ExF.mk_ C EF_BadNumbers (by decide +kernel)))) s_skip))
abbrev N_mean_spread : List Str := ["numbers", "mean", "point", "chance", "parts", "off"]
def B_mean_spread_1 : S := (.seq (.asg (.nm 5) (.call 5 (.cons (.v 2) (.cons (.v 1) .nil)))) (.app 4 (.call 6 (.cons (.call 6 (.cons (.v 5) (.cons (.v 5) .nil))) (.cons (.v 3) .nil)))))
def S_mean_spread : S := (.seq (.expr (.call 12 (.cons (.v 0) .nil))) (.seq (.asg (.nm 1) (.call 9 (.cons (.comp [2, 3] (.call 6 (.cons (.v 2) (.cons (.v 3) .nil))) (.tp [2, 3]) (.iseq (.v 0)) .nil) .nil))) (.seq (.asgO 4 (.lst .nil)) (.seq (.for_ (.tp [2, 3]) (.iseq (.v 0)) B_mean_spread_1) (.frz 4 (.ret (.tup (.cons (.v 1) (.cons (.call 9 (.cons (.v 4) .nil)) .nil)))))))))
theorem w_mean_spread (F_need_numbers : Fct g m P w mg base 5 12 "need_numbers" st_need_numbers ps_need_numbers) (F_total : Fct g m P w mg base 3 9 "total" st_total ps_total) (F_times : Fct g m P w mg base 2 6 "times" st_times ps_times) (F_minus : Fct g m P w mg base 2 5 "minus" st_minus ps_minus) (C : Cok g P w mg base 5 fr E N_mean_spread (defScope st_mean_spread) true X) : PSs X (defBody st_mean_spread) (rds g m fr E S_mean_spread) :=
  (s_seq (s_expr rfl (n_call C F_need_numbers (by decide +kernel) rfl rfl rfl (n_cons rfl (n_v C (by decide +kernel)) n_nil)))
  (s_seq (s_asg C rfl rfl rfl (g_nm C (by decide +kernel)) (n_call C F_total (by decide +kernel) rfl rfl rfl (n_cons rfl (n_lc C rfl (n_comp (own := [("point", 2), ("chance", 3)]) C (by decide +kernel) rfl  (i_seq C (w_t (n_o rfl (n_v C (by decide +kernel))))) (fun {_} C1 => (g_tp C1 rfl rfl (g_cons C1 (by decide +kernel) (g_cons C1 (by decide +kernel) g_nil rfl) rfl))) (fun {_} C1 => c_nil) (fun {_} C1 => (n_call C1 F_times (by decide +kernel) rfl rfl rfl (n_cons rfl (n_v C1 (by decide +kernel)) (n_cons rfl (n_v C1 (by decide +kernel)) n_nil)))) (fun _ => rfl))) n_nil)))
  (s_seq (s_asgO C (by decide +kernel) rfl (n_lstF n_nil))
  (s_seq (s_for C rfl (fun _ => rfl) (i_seq C (w_f rfl (n_v C (by decide +kernel)))) (g_tp C rfl rfl (g_cons C (by decide +kernel) (g_cons C (by decide +kernel) g_nil rfl) rfl)) (s_seq (s_asg C rfl rfl rfl (g_nm C (by decide +kernel)) (n_call C F_minus (by decide +kernel) rfl rfl rfl (n_cons rfl (n_v C (by decide +kernel)) (n_cons rfl (n_v C (by decide +kernel)) n_nil))))
  (s_one (s_app C (by decide +kernel) rfl rfl rfl rfl (n_call C F_times (by decide +kernel) rfl rfl rfl (n_cons rfl (n_call C F_times (by decide +kernel) rfl rfl rfl (n_cons rfl (n_v C (by decide +kernel)) (n_cons rfl (n_v C (by decide +kernel)) n_nil))) (n_cons rfl (n_v C (by decide +kernel)) n_nil)))))))
  (s_frzs (s_one (s_ret (n_tup (n_cons rfl (n_v C (by decide +kernel)) (n_cons rfl (n_call C F_total (by decide +kernel) rfl rfl rfl (n_cons rfl (n_v C (by decide +kernel)) n_nil)) n_nil))))))))))
abbrev N_middles : List Str := ["numbers", "found", "below", "point", "chance", "above"]
def B_middles_1 : S := (.seq (.asg (.nm 5) (.call 5 (.cons (.glo 1) (.cons (.v 2) .nil)))) (.seq (.asg (.nm 2) (.call 4 (.cons (.v 2) (.cons (.v 4) .nil)))) (.ife (.an (.nt (.call 8 (.cons (.v 2) (.cons (.glo 3) .nil)))) (.nt (.call 8 (.cons (.v 5) (.cons (.glo 3) .nil))))) (.app 1 (.v 3)) .skip)))
def S_middles : S := (.seq (.expr (.call 12 (.cons (.v 0) .nil))) (.seq (.par [(1, true), (2, false)] (.cons (.lst .nil) (.cons (.glo 0) .nil))) (.seq (.for_ (.tp [3, 4]) (.iseq (.v 0)) B_middles_1) (.ret (.tup (.cons (.p2 .ix (.pk 1) (.int 0)) (.cons (.p2 .ix (.pk 1) (.p1 .neg (.int 1))) .nil)))))))
theorem w_middles (F_need_numbers : Fct g m P w mg base 5 12 "need_numbers" st_need_numbers ps_need_numbers) (F_minus : Fct g m P w mg base 2 5 "minus" st_minus ps_minus) (F_plus : Fct g m P w mg base 2 4 "plus" st_plus ps_plus) (F_is_less : Fct g m P w mg base 1 8 "is_less" st_is_less ps_is_less) (G_ZERO : GloF g m mg 0 "ZERO") (G_ONE : GloF g m mg 1 "ONE") (G_HALF : GloF g m mg 3 "HALF") (C : Cok g P w mg base 5 fr E N_middles (defScope st_middles) true X) : PSs X (defBody st_middles) (rds g m fr E S_middles) :=
  (s_seq (s_expr rfl (n_call C F_need_numbers (by decide +kernel) rfl rfl rfl (n_cons rfl (n_v C (by decide +kernel)) n_nil)))
  (s_seq (by first | exact s_par2 C (by decide +kernel) (by decide +kernel) (f_consL rfl n_nil (f_cons rfl (n_glo C G_ZERO (by decide +kernel)) f_nil)) | exact s_parN C (by decide +kernel) rfl rfl (g_tp C rfl rfl (g_cons C (by decide +kernel) (g_cons C (by decide +kernel) g_nil rfl) rfl)) (f_consL rfl n_nil (f_cons rfl (n_glo C G_ZERO (by decide +kernel)) f_nil)))
  (s_seq (s_for C rfl (fun _ => rfl) (i_seq C (w_f rfl (n_v C (by decide +kernel)))) (g_tp C rfl rfl (g_cons C (by decide +kernel) (g_cons C (by decide +kernel) g_nil rfl) rfl)) (s_seq (s_asg C rfl rfl rfl (g_nm C (by decide +kernel)) (n_call C F_minus (by decide +kernel) rfl rfl rfl (n_cons rfl (n_glo C G_ONE (by decide +kernel)) (n_cons rfl (n_v C (by decide +kernel)) n_nil))))
  (s_seq (s_asg C rfl rfl rfl (g_nm C (by decide +kernel)) (n_call C F_plus (by decide +kernel) rfl rfl rfl (n_cons rfl (n_v C (by decide +kernel)) (n_cons rfl (n_v C (by decide +kernel)) n_nil))))
  (s_one (s_if (t_w (t_an (t_nt (t_val (fun _ => rfl) (n_call C F_is_less (by decide +kernel) rfl rfl rfl (n_cons rfl (n_v C (by decide +kernel)) (n_cons rfl (n_glo C G_HALF (by decide +kernel)) n_nil))))) (t_an1 (t_nt (t_val (fun _ => rfl) (n_call C F_is_less (by decide +kernel) rfl rfl rfl (n_cons rfl (n_v C (by decide +kernel)) (n_cons rfl (n_glo C G_HALF (by decide +kernel)) n_nil)))))))) (s_one (s_app C (by decide +kernel) rfl rfl rfl rfl (n_v C (by decide +kernel)))) s_skip)))))
  (s_one (s_ret (n_tup (n_cons rfl (n_ix C (fun _ _ => rfl) (n_pk C (by decide +kernel)) (n_o rfl n_int)) (n_cons rfl (n_ix C (fun _ _ => rfl) (n_pk C (by decide +kernel)) (n_o rfl (n_neg C (n_o rfl n_int)))) n_nil))))))))
abbrev N_need_spread : List Str := ["spread", "gap"]
def S_need_spread : S := (.seq (.ife (.or (.nt (.call 1 (.cons (.v 0) .nil))) (.p2 .lt (.p2 .ix (.v 0) (.int 0)) (.int 0))) (.rais 2 (.cons (.str "a ratio from 0 on is needed") .nil)) .skip) (.ife (.or (.nt (.call 1 (.cons (.v 1) .nil))) (.p2 .le (.p2 .ix (.v 1) (.int 0)) (.int 0))) (.rais 3 (.cons (.str "a ratio above 0 is needed") .nil)) .skip))
theorem w_need_spread (F_is_ratio : Fct g m P w mg base 2 1 "is_ratio" st_is_ratio ps_is_ratio) (EF_BadSpread : ExF g mg 2 "BadSpread") (EF_BadGap : ExF g mg 3 "BadGap") (EK : ∀ n, m.kept n = false) (C : Cok g P w mg base 2 fr E N_need_spread (defScope st_need_spread) true X) : PSs X (defBody st_need_spread) (rds g m fr E S_need_spread) :=
  (s_seq (s_if (t_w (t_or (t_nt (t_val (fun _ => rfl) (n_call C F_is_ratio (by decide +kernel) rfl rfl rfl (n_cons rfl (n_v C (by decide +kernel)) n_nil)))) (t_or1 (t_cmp C rfl (nomark _) (n_o rfl (n_ix C (fun _ _ => rfl) (n_o rfl (n_v C (by decide +kernel))) (n_o rfl n_int))) (n_o rfl n_int))))) (s_one (s_rais C (EK 2) (ExF.mk_ C EF_BadSpread (by decide +kernel)))) s_skip)
  (s_one (s_if (t_w (t_or (t_nt (t_val (fun _ => rfl) (n_call C F_is_ratio (by decide +kernel) rfl rfl rfl (n_cons rfl (n_v C (by decide +kernel)) n_nil)))) (t_or1 (t_cmp C rfl (nomark _) (n_o rfl (n_ix C (fun _ _ => rfl) (n_o rfl (n_v C (by decide +kernel))) (n_o rfl n_int))) (n_o rfl n_int))))) (s_one (s_rais C (EK 3) (ExF.mk_ C EF_BadGap (by decide +kernel)))) s_skip)))
abbrev N_one_side : List Str := ["spread", "gap"]
def S_one_side : S := (.ret (.call 7 (.cons (.v 0) (.cons (.call 4 (.cons (.v 0) (.cons (.call 6 (.cons (.v 1) (.cons (.v 1) .nil))) .nil))) .nil))))
theorem w_one_side (F_over : Fct g m P w mg base 2 7 "over" st_over ps_over) (F_plus : Fct g m P w mg base 2 4 "plus" st_plus ps_plus) (F_times : Fct g m P w mg base 2 6 "times" st_times ps_times) (C : Cok g P w mg base 2 fr E N_one_side (defScope st_one_side) true X) : PSs X (defBody st_one_side) (rds g m fr E S_one_side) :=
  (s_one (s_ret (n_call C F_over (by decide +kernel) rfl rfl rfl (n_cons rfl (n_v C (by decide +kernel)) (n_cons rfl (n_call C F_plus (by decide +kernel) rfl rfl rfl (n_cons rfl (n_v C (by decide +kernel)) (n_cons rfl (n_call C F_times (by decide +kernel) rfl rfl rfl (n_cons rfl (n_v C (by decide +kernel)) (n_cons rfl (n_v C (by decide +kernel)) n_nil))) n_nil))) n_nil)))))
abbrev N_spread_chance : List Str := ["spread", "gap"]
def S_spread_chance : S := (.seq (.expr (.call 15 (.cons (.v 0) (.cons (.v 1) .nil)))) (.ret (.call 16 (.cons (.v 0) (.cons (.v 1) .nil)))))
theorem w_spread_chance (F_need_spread : Fct g m P w mg base 3 15 "need_spread" st_need_spread ps_need_spread) (F_one_side : Fct g m P w mg base 3 16 "one_side" st_one_side ps_one_side) (C : Cok g P w mg base 3 fr E N_spread_chance (defScope st_spread_chance) true X) : PSs X (defBody st_spread_chance) (rds g m fr E S_spread_chance) :=
  (s_seq (s_expr rfl (n_call C F_need_spread (by decide +kernel) rfl rfl rfl (n_cons rfl (n_v C (by decide +kernel)) (n_cons rfl (n_v C (by decide +kernel)) n_nil))))
  (s_one (s_ret (n_call C F_one_side (by decide +kernel) rfl rfl rfl (n_cons rfl (n_v C (by decide +kernel)) (n_cons rfl (n_v C (by decide +kernel)) n_nil))))))
abbrev N_both_chance : List Str := ["spread", "gap"]
def S_both_chance : S := (.seq (.expr (.call 15 (.cons (.v 0) (.cons (.v 1) .nil)))) (.ret (.call 10 (.cons (.lst (.cons (.glo 1) (.cons (.call 7 (.cons (.v 0) (.cons (.call 6 (.cons (.v 1) (.cons (.v 1) .nil))) .nil))) .nil))) .nil))))
theorem w_both_chance (F_need_spread : Fct g m P w mg base 3 15 "need_spread" st_need_spread ps_need_spread) (F_least_of : Fct g m P w mg base 2 10 "least_of" st_least_of ps_least_of) (F_over : Fct g m P w mg base 2 7 "over" st_over ps_over) (F_times : Fct g m P w mg base 2 6 "times" st_times ps_times) (G_ONE : GloF g m mg 1 "ONE") (C : Cok g P w mg base 3 fr E N_both_chance (defScope st_both_chance) true X) : PSs X (defBody st_both_chance) (rds g m fr E S_both_chance) :=
  (s_seq (s_expr rfl (n_call C F_need_spread (by decide +kernel) rfl rfl rfl (n_cons rfl (n_v C (by decide +kernel)) (n_cons rfl (n_v C (by decide +kernel)) n_nil))))
  (s_one (s_ret (n_call C F_least_of (by decide +kernel) rfl rfl rfl (n_cons rfl (n_lst (n_cons rfl (n_glo C G_ONE (by decide +kernel)) (n_cons rfl (n_call C F_over (by decide +kernel) rfl rfl rfl (n_cons rfl (n_v C (by decide +kernel)) (n_cons rfl (n_call C F_times (by decide +kernel) rfl rfl rfl (n_cons rfl (n_v C (by decide +kernel)) (n_cons rfl (n_v C (by decide +kernel)) n_nil))) n_nil))) n_nil))) n_nil)))))
abbrev N_spread_numbers : List Str := ["spread", "gap", "chance"]
def S_spread_numbers : S := (.seq (.expr (.call 15 (.cons (.v 0) (.cons (.v 1) .nil)))) (.seq (.ife (.p2 .eq (.v 0) (.glo 0)) (.ret (.tup (.cons (.tup (.cons (.glo 0) (.cons (.glo 1) .nil))) .nil))) .skip) (.seq (.asg (.nm 2) (.call 16 (.cons (.v 0) (.cons (.v 1) .nil)))) (.ret (.tup (.cons (.tup (.cons (.call 5 (.cons (.glo 0) (.cons (.call 7 (.cons (.v 0) (.cons (.v 1) .nil))) .nil))) (.cons (.call 5 (.cons (.glo 1) (.cons (.v 2) .nil))) .nil))) (.cons (.tup (.cons (.v 1) (.cons (.v 2) .nil))) .nil)))))))
theorem w_spread_numbers (F_need_spread : Fct g m P w mg base 3 15 "need_spread" st_need_spread ps_need_spread) (F_one_side : Fct g m P w mg base 3 16 "one_side" st_one_side ps_one_side) (F_minus : Fct g m P w mg base 2 5 "minus" st_minus ps_minus) (F_over : Fct g m P w mg base 2 7 "over" st_over ps_over) (G_ZERO : GloF g m mg 0 "ZERO") (G_ONE : GloF g m mg 1 "ONE") (C : Cok g P w mg base 3 fr E N_spread_numbers (defScope st_spread_numbers) true X) : PSs X (defBody st_spread_numbers) (rds g m fr E S_spread_numbers) :=
  (s_seq (s_expr rfl (n_call C F_need_spread (by decide +kernel) rfl rfl rfl (n_cons rfl (n_v C (by decide +kernel)) (n_cons rfl (n_v C (by decide +kernel)) n_nil))))
  (s_seq (s_if (t_cmp C rfl (nomark _) (n_o rfl (n_v C (by decide +kernel))) (n_o rfl (n_glo C G_ZERO (by decide +kernel)))) (s_one (s_ret (n_tup (n_cons rfl (n_tup (n_cons rfl (n_glo C G_ZERO (by decide +kernel)) (n_cons rfl (n_glo C G_ONE (by decide +kernel)) n_nil))) n_nil)))) s_skip)
  (s_seq (s_asg C rfl rfl rfl (g_nm C (by decide +kernel)) (n_call C F_one_side (by decide +kernel) rfl rfl rfl (n_cons rfl (n_v C (by decide +kernel)) (n_cons rfl (n_v C (by decide +kernel)) n_nil))))
  (s_one (s_ret (n_tup (n_cons rfl (n_tup (n_cons rfl (n_call C F_minus (by decide +kernel) rfl rfl rfl (n_cons rfl (n_glo C G_ZERO (by decide +kernel)) (n_cons rfl (n_call C F_over (by decide +kernel) rfl rfl rfl (n_cons rfl (n_v C (by decide +kernel)) (n_cons rfl (n_v C (by decide +kernel)) n_nil))) n_nil))) (n_cons rfl (n_call C F_minus (by decide +kernel) rfl rfl rfl (n_cons rfl (n_glo C G_ONE (by decide +kernel)) (n_cons rfl (n_v C (by decide +kernel)) n_nil))) n_nil))) (n_cons rfl (n_tup (n_cons rfl (n_v C (by decide +kernel)) (n_cons rfl (n_v C (by decide +kernel)) n_nil))) n_nil))))))))
abbrev N__law_begun : List Str := ["script", "great", "cell"]
def S__law_begun : S := (.seq (.asgO 1 (.comp [2] (.p2 .sub (.p1 .abs (.v 2)) (.p2 .pow (.int 10) (.int 18))) (.nm 2) (.iseq (.v 0)) (.p2 .ge (.p1 .abs (.v 2)) (.p2 .pow (.int 10) (.int 18))))) (.shr 1 (.ret (.mkd ["great", "cells", "rest", "turn"] (.cons (.v 1) (.cons (.comp [2] (.p1 .abs (.v 2)) (.nm 2) (.iseq (.v 0)) .nil) (.cons (.int 0) (.cons (.int 0) .nil))))))))
theorem w__law_begun (B : Blt mg) (C : Cok g P w mg base 0 fr E N__law_begun (defScope st__law_begun) true X) : PSs X (defBody st__law_begun) (rds g m fr E S__law_begun) :=
  (s_seq (s_lcO C rfl (s_setLc (own := [("cell", 2)]) C (by decide +kernel) (by decide +kernel) (i_seq C (w_t (n_o rfl (n_v C (by decide +kernel))))) (fun {_} C1 => (g_nm C1 (by decide +kernel))) (fun {_} C1 => (c_one rfl (t_cmp C1 rfl (nomark _) (n_o rfl (n_abs C1 B (by decide +kernel) rfl (n_o rfl (n_v C1 (by decide +kernel))))) (n_o rfl (n_bin C1 rfl (n_o rfl n_int) (n_o rfl n_int)))))) (fun {_} C1 => (n_bin C1 rfl (n_o rfl (n_abs C1 B (by decide +kernel) rfl (n_o rfl (n_v C1 (by decide +kernel))))) (n_o rfl (n_bin C1 rfl (n_o rfl n_int) (n_o rfl n_int))))) (fun _ => rfl)))
  (s_shrs (s_one (s_ret (n_mkd C (.cons (.cons (.cons (.cons .nil)))) rfl rfl (by simp) (by decide) (d_cons (n_v C (by decide +kernel)) (d_cons (n_lc C rfl (n_comp (own := [("cell", 2)]) C (by decide +kernel) rfl  (i_seq C (w_t (n_o rfl (n_v C (by decide +kernel))))) (fun {_} C1 => (g_nm C1 (by decide +kernel))) (fun {_} C1 => c_nil) (fun {_} C1 => (n_abs C1 B (by decide +kernel) rfl (n_o rfl (n_v C1 (by decide +kernel))))) (fun _ => rfl))) (d_cons n_int (d_cons n_int d_nil)))))))))
abbrev N__law_blended : List Str := ["state", "turn", "found", "prime", "blend", "cell"]
def B__law_blended_1 : S := (.asg (.nm 4) (.p2 .mod (.p1 .toInt (.p2 .add (.p2 .add (.p2 .mul (.v 4) (.int 69621)) (.v 5)) (.v 1))) (.v 3)))
def B__law_blended_2 : S := (.seq (.asg (.nm 4) (.p2 .add (.p2 .mul (.int 48271) (.v 1)) (.p2 .fdiv (.v 3) (.int 53)))) (.seq (.for_ (.nm 5) (.iseq (.dget 0 "cells")) B__law_blended_1) (.asg (.nm 2) (.p2 .add (.p2 .mul (.v 2) (.int 2147483647)) (.p2 .mod (.p1 .toInt (.p2 .pow (.v 4) (.int 5))) (.v 3))))))
def S__law_blended : S := (.seq (.par [(1, false), (2, false)] (.cons (.p2 .add (.dget 0 "turn") (.int 1)) (.cons (.int 0) .nil))) (.seq (.dset 0 "turn" (.v 1)) (.seq (.for_ (.nm 3) (.iseq (.lst (.cons (.int 2147483579) (.cons (.int 2147483629) (.cons (.int 2147483563) .nil))))) B__law_blended_2) (.ret (.v 2)))))
theorem w__law_blended (B : Blt mg) (C : Cok g P w mg base 0 fr E N__law_blended (defScope st__law_blended) true X) : PSs X (defBody st__law_blended) (rds g m fr E S__law_blended) :=
  (s_seq (by first | exact s_par2 C (by decide +kernel) (by decide +kernel) (f_cons rfl (n_bin C rfl (n_o rfl (n_dget C (by decide +kernel))) (n_o rfl n_int)) (f_cons rfl n_int f_nil)) | exact s_parN C (by decide +kernel) rfl rfl (g_tp C rfl rfl (g_cons C (by decide +kernel) (g_cons C (by decide +kernel) g_nil rfl) rfl)) (f_cons rfl (n_bin C rfl (n_o rfl (n_dget C (by decide +kernel))) (n_o rfl n_int)) (f_cons rfl n_int f_nil)))
  (s_seq (s_dset C (by decide +kernel) rfl (n_v C (by decide +kernel)))
  (s_seq (s_for C rfl (fun _ => rfl) (i_seq C (w_f rfl (n_lst (n_cons rfl n_int (n_cons rfl n_int (n_cons rfl n_int n_nil)))))) (g_nm C (by decide +kernel)) (s_seq (s_asg C rfl rfl rfl (g_nm C (by decide +kernel)) (n_bin C rfl (n_o rfl (n_bin C rfl (n_o rfl n_int) (n_o rfl (n_v C (by decide +kernel))))) (n_o rfl (n_bin C rfl (n_o rfl (n_v C (by decide +kernel))) (n_o rfl n_int)))))
  (s_seq (s_for C rfl (fun _ => rfl) (i_seq C (w_f rfl (n_dget C (by decide +kernel)))) (g_nm C (by decide +kernel)) (s_one (s_asg C rfl rfl rfl (g_nm C (by decide +kernel)) (n_bin C rfl (n_o rfl (n_int1 C B (by decide +kernel) rfl (n_o rfl (n_bin C rfl (n_o rfl (n_bin C rfl (n_o rfl (n_bin C rfl (n_o rfl (n_v C (by decide +kernel))) (n_o rfl n_int))) (n_o rfl (n_v C (by decide +kernel))))) (n_o rfl (n_v C (by decide +kernel))))))) (n_o rfl (n_v C (by decide +kernel)))))))
  (s_one (s_asg C rfl rfl rfl (g_nm C (by decide +kernel)) (n_bin C rfl (n_o rfl (n_bin C rfl (n_o rfl (n_v C (by decide +kernel))) (n_o rfl n_int))) (n_o rfl (n_bin C rfl (n_o rfl (n_int1 C B (by decide +kernel) rfl (n_o rfl (n_bin C rfl (n_o rfl (n_v C (by decide +kernel))) (n_o rfl n_int))))) (n_o rfl (n_v C (by decide +kernel)))))))))))
  (s_one (s_ret (n_v C (by decide +kernel)))))))
abbrev N__law_draw : List Str := ["state", "room", "found"]
def S__law_draw : S := (.seq (.ife (.p2 .eq (.dget 0 "rest") (.int 0)) (.dset 0 "rest" (.ife (.tne 0 "great") (.pop0 0 "great") (.call 21 (.cons (.v 0) .nil)))) .skip) (.seq (.asg (.nm 2) (.p2 .mod (.p1 .toInt (.dget 0 "rest")) (.v 1))) (.seq (.dset 0 "rest" (.p2 .fdiv (.dget 0 "rest") (.v 1))) (.ret (.v 2)))))
theorem w__law_draw (B : Blt mg) (F__law_blended : Fct g m P w mg base 1 21 "_law_blended" st__law_blended ps__law_blended) (C : Cok g P w mg base 1 fr E N__law_draw (defScope st__law_draw) true X) : PSs X (defBody st__law_draw) (rds g m fr E S__law_draw) :=
  (s_seq (s_if (t_cmp C rfl (nomark _) (n_o rfl (n_dget C (by decide +kernel))) (n_o rfl n_int)) (s_one (s_dset C (by decide +kernel) rfl (n_ife (t_tne C (by decide +kernel)) (n_pop0 C (by decide +kernel) rfl rfl) (n_call C F__law_blended (by decide +kernel) rfl rfl rfl (n_cons rfl (n_v C (by decide +kernel)) n_nil))))) s_skip)
  (s_seq (s_asg C rfl rfl rfl (g_nm C (by decide +kernel)) (n_bin C rfl (n_o rfl (n_int1 C B (by decide +kernel) rfl (n_o rfl (n_dget C (by decide +kernel))))) (n_o rfl (n_v C (by decide +kernel)))))
  (s_seq (s_dset C (by decide +kernel) rfl (n_bin C rfl (n_o rfl (n_dget C (by decide +kernel))) (n_o rfl (n_v C (by decide +kernel)))))
  (s_one (s_ret (n_v C (by decide +kernel)))))))
abbrev N__law_pick : List Str := ["state", "some"]
def S__law_pick : S := (.ret (.p2 .ix (.v 1) (.call 22 (.cons (.v 0) (.cons (.p1 .len (.v 1)) .nil)))))
theorem w__law_pick (B : Blt mg) (F__law_draw : Fct g m P w mg base 2 22 "_law_draw" st__law_draw ps__law_draw) (C : Cok g P w mg base 2 fr E N__law_pick (defScope st__law_pick) true X) : PSs X (defBody st__law_pick) (rds g m fr E S__law_pick) :=
  (s_one (s_ret (n_ix C (fun _ _ => rfl) (n_o rfl (n_v C (by decide +kernel))) (n_o rfl (n_call C F__law_draw (by decide +kernel) rfl rfl rfl (n_cons rfl (n_v C (by decide +kernel)) (n_cons rfl (n_len C B (by decide +kernel) rfl (n_o rfl (n_v C (by decide +kernel)))) n_nil)))))))
-- BAD _law_caught: Try(body=[Expr(value=Call(func=Name(id='action', ctx=Load()), args=[], keywords=
abbrev N__law_is_truth : List Str := ["found", "due"]
def S__law_is_truth : S := (.ret (.ife (.v 1) (.isB false true (.v 0)) (.isB false false (.v 0))))
theorem w__law_is_truth  (C : Cok g P w mg base 0 fr E N__law_is_truth (defScope st__law_is_truth) true X) : PSs X (defBody st__law_is_truth) (rds g m fr E S__law_is_truth) :=
  (s_one (s_ret (n_ife (t_val (fun _ => rfl) (n_v C (by decide +kernel))) (n_isB (n_v C (by decide +kernel))) (n_isB (n_v C (by decide +kernel))))))
abbrev N__law_same : List Str := ["found", "due", "waiting", "one", "other", "alike", "key", "left", "right"]
def B__law_same_1 : S := (.seq (.popT (.tp [3, 4]) 2) (.ife (.or (.isN false (.v 4)) (.isi [.bool] (.v 4))) (.ife (.ife (.isN false (.v 4)) (.isN true (.v 3)) (.nt (.call 25 (.cons (.v 3) (.cons (.v 4) .nil))))) (.ret (.bl false)) .skip) (.ife (.isi [.int, .str] (.v 4)) (.ife (.or (.isi [.bool] (.v 3)) (.or (.p2 .ne (.isi [.int] (.v 3)) (.isi [.int] (.v 4))) (.p2 .ne (.v 3) (.v 4)))) (.ret (.bl false)) .skip) (.ife (.isi [.dct] (.v 4)) .bad (.seq (.asg (.nm 5) (.lst (.cons (.an (.isi [.tup] (.v 3)) (.isi [.tup] (.v 4))) (.cons (.an (.isi [.lst] (.v 3)) (.isi [.lst] (.v 4))) .nil)))) (.seq (.ife (.or (.p2 .nin (.bl true) (.v 5)) (.p2 .ne (.p1 .len (.v 3)) (.p1 .len (.v 4)))) (.ret (.bl false)) .skip) (.ext 2 (.comp [7, 8] (.tup (.cons (.v 7) (.cons (.v 8) .nil))) (.tp [7, 8]) (.izip (.v 3) (.v 4)) .nil))))))))
def S__law_same : S := (.seq (.asgO 2 (.lst (.cons (.tup (.cons (.v 0) (.cons (.v 1) .nil))) .nil))) (.seq (.while_ (.p2 .ne (.pk 2) (.lst .nil)) B__law_same_1) (.ret (.bl true))))
theorem w__law_same (B : Blt mg) (F__law_is_truth : Fct g m P w mg base 1 25 "_law_is_truth" st__law_is_truth ps__law_is_truth) (C : Cok g P w mg base 1 fr E N__law_same (defScope st__law_same) true X) : PSs X (defBody st__law_same) (rds g m fr E S__law_same) :=
  (s_seq (s_asgO C (by decide +kernel) rfl (n_lstF (n_cons rfl (n_tup (n_cons rfl (n_v C (by decide +kernel)) (n_cons rfl (n_v C (by decide +kernel)) n_nil))) n_nil)))
  (s_seq (s_while C rfl (t_cmp C rfl (nomark _) (n_pk C (by decide +kernel)) (n_o rfl (n_lst n_nil))) (s_seq (s_popT C (by decide +kernel) rfl rfl rfl rfl rfl (g_tp C rfl rfl (g_cons C (by decide +kernel) (g_cons C (by decide +kernel) g_nil rfl) rfl)))
  (s_one (s_if (t_w (t_or (t_isN (n_v C (by decide +kernel))) (t_or1 (t_val (fun _ => rfl) (n_isi C B (by decide +kernel) rfl rfl rfl rfl (n_v C (by decide +kernel)) (n_ty C B.bool boot1_bool (by decide) (by decide +kernel) rfl)))))) (s_one (s_if (t_ife (t_isN (n_v C (by decide +kernel))) (t_ntN (n_v C (by decide +kernel))) (t_nt (t_val (fun _ => rfl) (n_call C F__law_is_truth (by decide +kernel) rfl rfl rfl (n_cons rfl (n_v C (by decide +kernel)) (n_cons rfl (n_v C (by decide +kernel)) n_nil)))))) (s_one (s_ret n_bl)) s_skip)) (s_one (s_if (t_val (fun _ => rfl) (n_isiN C B (by decide +kernel) rfl rfl rfl rfl (n_v C (by decide +kernel)) (n_tycons rfl (n_ty C B.int boot1_int (by decide) (by decide +kernel) rfl) (n_tycons rfl (n_ty C B.str boot1_str (by decide) (by decide +kernel) rfl) n_tynil)))) (s_one (s_if (t_w (t_or (t_val (fun _ => rfl) (n_isi C B (by decide +kernel) rfl rfl rfl rfl (n_v C (by decide +kernel)) (n_ty C B.bool boot1_bool (by decide) (by decide +kernel) rfl))) (t_or (t_cmp C rfl (nomark _) (n_o rfl (n_isi C B (by decide +kernel) rfl rfl rfl rfl (n_v C (by decide +kernel)) (n_ty C B.int boot1_int (by decide) (by decide +kernel) rfl))) (n_o rfl (n_isi C B (by decide +kernel) rfl rfl rfl rfl (n_v C (by decide +kernel)) (n_ty C B.int boot1_int (by decide) (by decide +kernel) rfl)))) (t_or1 (t_cmp C rfl (nomark _) (n_o rfl (n_v C (by decide +kernel))) (n_o rfl (n_v C (by decide +kernel)))))))) (s_one (s_ret n_bl)) s_skip)) (s_one (s_if (t_val (fun _ => rfl) (n_isi C B (by decide +kernel) rfl rfl rfl rfl (n_v C (by decide +kernel)) (n_ty C B.dict boot1_dict (by decide) (by decide +kernel) rfl))) s_bads (s_seq (s_asg C rfl rfl rfl (g_nm C (by decide +kernel)) (n_lst (n_cons rfl (n_an (n_isi C B (by decide +kernel) rfl rfl rfl rfl (n_v C (by decide +kernel)) (n_ty C B.tuple boot1_tuple (by decide) (by decide +kernel) rfl)) (n_an1 (n_isi C B (by decide +kernel) rfl rfl rfl rfl (n_v C (by decide +kernel)) (n_ty C B.tuple boot1_tuple (by decide) (by decide +kernel) rfl)))) (n_cons rfl (n_an (n_isi C B (by decide +kernel) rfl rfl rfl rfl (n_v C (by decide +kernel)) (n_ty C B.list boot1_list (by decide) (by decide +kernel) rfl)) (n_an1 (n_isi C B (by decide +kernel) rfl rfl rfl rfl (n_v C (by decide +kernel)) (n_ty C B.list boot1_list (by decide) (by decide +kernel) rfl)))) n_nil))))
  (s_seq (s_if (t_w (t_or (t_cmp C rfl (by with_unfolding_all rfl) (n_o rfl n_bl) (n_o rfl (n_v C (by decide +kernel)))) (t_or1 (t_cmp C rfl (nomark _) (n_o rfl (n_len C B (by decide +kernel) rfl (n_o rfl (n_v C (by decide +kernel))))) (n_o rfl (n_len C B (by decide +kernel) rfl (n_o rfl (n_v C (by decide +kernel))))))))) (s_one (s_ret n_bl)) s_skip)
  (s_one (s_ext C (by decide +kernel) rfl rfl rfl rfl (n_o rfl (n_lc C rfl (n_comp (own := [("left", 7), ("right", 8)]) C (by decide +kernel) rfl  (i_zip C B (by decide +kernel) rfl rfl rfl (w_t (n_o rfl (n_v C (by decide +kernel)))) (w_t (n_o rfl (n_v C (by decide +kernel))))) (fun {_} C1 => (g_tp C1 rfl rfl (g_cons C1 (by decide +kernel) (g_cons C1 (by decide +kernel) g_nil rfl) rfl))) (fun {_} C1 => c_nil) (fun {_} C1 => (n_tup (n_cons rfl (n_v C1 (by decide +kernel)) (n_cons rfl (n_v C1 (by decide +kernel)) n_nil)))) (fun _ => rfl))))))))))))))))
  (s_one (s_ret n_bl))))
abbrev N__law_q : List Str := ["n", "d", "one", "other"]
def B__law_q_1 : S := (.par [(2, false), (3, false)] (.cons (.v 3) (.cons (.p2 .mod (.p1 .toInt (.v 2)) (.v 3)) .nil)))
def S__law_q : S := (.seq (.par [(2, false), (3, false)] (.cons (.p1 .abs (.v 0)) (.cons (.p1 .abs (.v 1)) .nil))) (.seq (.while_ (.p2 .gt (.v 3) (.int 0)) B__law_q_1) (.ret (.ife (.p2 .gt (.v 1) (.int 0)) (.tup (.cons (.p2 .fdiv (.v 0) (.v 2)) (.cons (.p2 .fdiv (.v 1) (.v 2)) .nil))) (.tup (.cons (.p2 .fdiv (.p1 .neg (.v 0)) (.v 2)) (.cons (.p2 .fdiv (.p1 .neg (.v 1)) (.v 2)) .nil)))))))
theorem w__law_q (B : Blt mg) (C : Cok g P w mg base 0 fr E N__law_q (defScope st__law_q) true X) : PSs X (defBody st__law_q) (rds g m fr E S__law_q) :=
  (s_seq (by first | exact s_par2 C (by decide +kernel) (by decide +kernel) (f_cons rfl (n_abs C B (by decide +kernel) rfl (n_o rfl (n_v C (by decide +kernel)))) (f_cons rfl (n_abs C B (by decide +kernel) rfl (n_o rfl (n_v C (by decide +kernel)))) f_nil)) | exact s_parN C (by decide +kernel) rfl rfl (g_tp C rfl rfl (g_cons C (by decide +kernel) (g_cons C (by decide +kernel) g_nil rfl) rfl)) (f_cons rfl (n_abs C B (by decide +kernel) rfl (n_o rfl (n_v C (by decide +kernel)))) (f_cons rfl (n_abs C B (by decide +kernel) rfl (n_o rfl (n_v C (by decide +kernel)))) f_nil)))
  (s_seq (s_while C rfl (t_cmp C rfl (nomark _) (n_o rfl (n_v C (by decide +kernel))) (n_o rfl n_int)) (s_one (by first | exact s_par2 C (by decide +kernel) (by decide +kernel) (f_cons rfl (n_v C (by decide +kernel)) (f_cons rfl (n_bin C rfl (n_o rfl (n_int1 C B (by decide +kernel) rfl (n_o rfl (n_v C (by decide +kernel))))) (n_o rfl (n_v C (by decide +kernel)))) f_nil)) | exact s_parN C (by decide +kernel) rfl rfl (g_tp C rfl rfl (g_cons C (by decide +kernel) (g_cons C (by decide +kernel) g_nil rfl) rfl)) (f_cons rfl (n_v C (by decide +kernel)) (f_cons rfl (n_bin C rfl (n_o rfl (n_int1 C B (by decide +kernel) rfl (n_o rfl (n_v C (by decide +kernel))))) (n_o rfl (n_v C (by decide +kernel)))) f_nil)))))
  (s_one (s_ret (n_ife (t_cmp C rfl (nomark _) (n_o rfl (n_v C (by decide +kernel))) (n_o rfl n_int)) (n_tup (n_cons rfl (n_bin C rfl (n_o rfl (n_v C (by decide +kernel))) (n_o rfl (n_v C (by decide +kernel)))) (n_cons rfl (n_bin C rfl (n_o rfl (n_v C (by decide +kernel))) (n_o rfl (n_v C (by decide +kernel)))) n_nil))) (n_tup (n_cons rfl (n_bin C rfl (n_o rfl (n_neg C (n_o rfl (n_v C (by decide +kernel))))) (n_o rfl (n_v C (by decide +kernel)))) (n_cons rfl (n_bin C rfl (n_o rfl (n_neg C (n_o rfl (n_v C (by decide +kernel))))) (n_o rfl (n_v C (by decide +kernel)))) n_nil))))))))
abbrev N__law_plus : List Str := ["one", "other"]
def S__law_plus : S := (.ret (.call 27 (.cons (.p2 .add (.p2 .mul (.p2 .ix (.v 0) (.int 0)) (.p2 .ix (.v 1) (.int 1))) (.p2 .mul (.p2 .ix (.v 1) (.int 0)) (.p2 .ix (.v 0) (.int 1)))) (.cons (.p2 .mul (.p2 .ix (.v 0) (.int 1)) (.p2 .ix (.v 1) (.int 1))) .nil))))
theorem w__law_plus (F__law_q : Fct g m P w mg base 1 27 "_law_q" st__law_q ps__law_q) (C : Cok g P w mg base 1 fr E N__law_plus (defScope st__law_plus) true X) : PSs X (defBody st__law_plus) (rds g m fr E S__law_plus) :=
  (s_one (s_ret (n_call C F__law_q (by decide +kernel) rfl rfl rfl (n_cons rfl (n_bin C rfl (n_o rfl (n_bin C rfl (n_o rfl (n_ix C (fun _ _ => rfl) (n_o rfl (n_v C (by decide +kernel))) (n_o rfl n_int))) (n_o rfl (n_ix C (fun _ _ => rfl) (n_o rfl (n_v C (by decide +kernel))) (n_o rfl n_int))))) (n_o rfl (n_bin C rfl (n_o rfl (n_ix C (fun _ _ => rfl) (n_o rfl (n_v C (by decide +kernel))) (n_o rfl n_int))) (n_o rfl (n_ix C (fun _ _ => rfl) (n_o rfl (n_v C (by decide +kernel))) (n_o rfl n_int)))))) (n_cons rfl (n_bin C rfl (n_o rfl (n_ix C (fun _ _ => rfl) (n_o rfl (n_v C (by decide +kernel))) (n_o rfl n_int))) (n_o rfl (n_ix C (fun _ _ => rfl) (n_o rfl (n_v C (by decide +kernel))) (n_o rfl n_int)))) n_nil)))))
abbrev N__law_minus : List Str := ["one", "other"]
def S__law_minus : S := (.ret (.call 27 (.cons (.p2 .sub (.p2 .mul (.p2 .ix (.v 0) (.int 0)) (.p2 .ix (.v 1) (.int 1))) (.p2 .mul (.p2 .ix (.v 1) (.int 0)) (.p2 .ix (.v 0) (.int 1)))) (.cons (.p2 .mul (.p2 .ix (.v 0) (.int 1)) (.p2 .ix (.v 1) (.int 1))) .nil))))
theorem w__law_minus (F__law_q : Fct g m P w mg base 1 27 "_law_q" st__law_q ps__law_q) (C : Cok g P w mg base 1 fr E N__law_minus (defScope st__law_minus) true X) : PSs X (defBody st__law_minus) (rds g m fr E S__law_minus) :=
  (s_one (s_ret (n_call C F__law_q (by decide +kernel) rfl rfl rfl (n_cons rfl (n_bin C rfl (n_o rfl (n_bin C rfl (n_o rfl (n_ix C (fun _ _ => rfl) (n_o rfl (n_v C (by decide +kernel))) (n_o rfl n_int))) (n_o rfl (n_ix C (fun _ _ => rfl) (n_o rfl (n_v C (by decide +kernel))) (n_o rfl n_int))))) (n_o rfl (n_bin C rfl (n_o rfl (n_ix C (fun _ _ => rfl) (n_o rfl (n_v C (by decide +kernel))) (n_o rfl n_int))) (n_o rfl (n_ix C (fun _ _ => rfl) (n_o rfl (n_v C (by decide +kernel))) (n_o rfl n_int)))))) (n_cons rfl (n_bin C rfl (n_o rfl (n_ix C (fun _ _ => rfl) (n_o rfl (n_v C (by decide +kernel))) (n_o rfl n_int))) (n_o rfl (n_ix C (fun _ _ => rfl) (n_o rfl (n_v C (by decide +kernel))) (n_o rfl n_int)))) n_nil)))))
abbrev N__law_times : List Str := ["one", "other"]
def S__law_times : S := (.ret (.call 27 (.cons (.p2 .mul (.p2 .ix (.v 0) (.int 0)) (.p2 .ix (.v 1) (.int 0))) (.cons (.p2 .mul (.p2 .ix (.v 0) (.int 1)) (.p2 .ix (.v 1) (.int 1))) .nil))))
theorem w__law_times (F__law_q : Fct g m P w mg base 1 27 "_law_q" st__law_q ps__law_q) (C : Cok g P w mg base 1 fr E N__law_times (defScope st__law_times) true X) : PSs X (defBody st__law_times) (rds g m fr E S__law_times) :=
  (s_one (s_ret (n_call C F__law_q (by decide +kernel) rfl rfl rfl (n_cons rfl (n_bin C rfl (n_o rfl (n_ix C (fun _ _ => rfl) (n_o rfl (n_v C (by decide +kernel))) (n_o rfl n_int))) (n_o rfl (n_ix C (fun _ _ => rfl) (n_o rfl (n_v C (by decide +kernel))) (n_o rfl n_int)))) (n_cons rfl (n_bin C rfl (n_o rfl (n_ix C (fun _ _ => rfl) (n_o rfl (n_v C (by decide +kernel))) (n_o rfl n_int))) (n_o rfl (n_ix C (fun _ _ => rfl) (n_o rfl (n_v C (by decide +kernel))) (n_o rfl n_int)))) n_nil)))))
abbrev N__law_over : List Str := ["one", "other"]
def S__law_over : S := (.ret (.call 27 (.cons (.p2 .mul (.p2 .ix (.v 0) (.int 0)) (.p2 .ix (.v 1) (.int 1))) (.cons (.p2 .mul (.p2 .ix (.v 0) (.int 1)) (.p2 .ix (.v 1) (.int 0))) .nil))))
theorem w__law_over (F__law_q : Fct g m P w mg base 1 27 "_law_q" st__law_q ps__law_q) (C : Cok g P w mg base 1 fr E N__law_over (defScope st__law_over) true X) : PSs X (defBody st__law_over) (rds g m fr E S__law_over) :=
  (s_one (s_ret (n_call C F__law_q (by decide +kernel) rfl rfl rfl (n_cons rfl (n_bin C rfl (n_o rfl (n_ix C (fun _ _ => rfl) (n_o rfl (n_v C (by decide +kernel))) (n_o rfl n_int))) (n_o rfl (n_ix C (fun _ _ => rfl) (n_o rfl (n_v C (by decide +kernel))) (n_o rfl n_int)))) (n_cons rfl (n_bin C rfl (n_o rfl (n_ix C (fun _ _ => rfl) (n_o rfl (n_v C (by decide +kernel))) (n_o rfl n_int))) (n_o rfl (n_ix C (fun _ _ => rfl) (n_o rfl (n_v C (by decide +kernel))) (n_o rfl n_int)))) n_nil)))))
abbrev N__law_less : List Str := ["one", "other"]
def S__law_less : S := (.ret (.p2 .lt (.p2 .mul (.p2 .ix (.v 0) (.int 0)) (.p2 .ix (.v 1) (.int 1))) (.p2 .mul (.p2 .ix (.v 1) (.int 0)) (.p2 .ix (.v 0) (.int 1)))))
theorem w__law_less  (C : Cok g P w mg base 0 fr E N__law_less (defScope st__law_less) true X) : PSs X (defBody st__law_less) (rds g m fr E S__law_less) :=
  (s_one (s_ret (n_cmp C rfl (nomark _) (n_o rfl (n_bin C rfl (n_o rfl (n_ix C (fun _ _ => rfl) (n_o rfl (n_v C (by decide +kernel))) (n_o rfl n_int))) (n_o rfl (n_ix C (fun _ _ => rfl) (n_o rfl (n_v C (by decide +kernel))) (n_o rfl n_int))))) (n_o rfl (n_bin C rfl (n_o rfl (n_ix C (fun _ _ => rfl) (n_o rfl (n_v C (by decide +kernel))) (n_o rfl n_int))) (n_o rfl (n_ix C (fun _ _ => rfl) (n_o rfl (n_v C (by decide +kernel))) (n_o rfl n_int))))))))
abbrev N__law_sum : List Str := ["some", "found", "each"]
def B__law_sum_1 : S := (.asg (.nm 1) (.call 28 (.cons (.v 1) (.cons (.v 2) .nil))))
def S__law_sum : S := (.seq (.asg (.nm 1) (.tup (.cons (.int 0) (.cons (.int 1) .nil)))) (.seq (.for_ (.nm 2) (.iseq (.v 0)) B__law_sum_1) (.ret (.v 1))))
theorem w__law_sum (F__law_plus : Fct g m P w mg base 2 28 "_law_plus" st__law_plus ps__law_plus) (C : Cok g P w mg base 2 fr E N__law_sum (defScope st__law_sum) true X) : PSs X (defBody st__law_sum) (rds g m fr E S__law_sum) :=
  (s_seq (s_asg C rfl rfl rfl (g_nm C (by decide +kernel)) (n_tup (n_cons rfl n_int (n_cons rfl n_int n_nil))))
  (s_seq (s_for C rfl (fun _ => rfl) (i_seq C (w_f rfl (n_v C (by decide +kernel)))) (g_nm C (by decide +kernel)) (s_one (s_asg C rfl rfl rfl (g_nm C (by decide +kernel)) (n_call C F__law_plus (by decide +kernel) rfl rfl rfl (n_cons rfl (n_v C (by decide +kernel)) (n_cons rfl (n_v C (by decide +kernel)) n_nil))))))
  (s_one (s_ret (n_v C (by decide +kernel))))))
abbrev N__law_number : List Str := ["draws", "size", "n", "d"]
def S__law_number : S := (.seq (.par [(2, false), (3, false)] (.cons (.call 22 (.cons (.v 0) (.cons (.p2 .add (.v 1) (.int 1)) .nil))) (.cons (.p2 .add (.int 1) (.call 22 (.cons (.v 0) (.cons (.call 23 (.cons (.v 0) (.cons (.lst (.cons (.int 1) (.cons (.int 1) (.cons (.int 3) (.cons (.v 1) .nil))))) .nil))) .nil)))) .nil))) (.ret (.call 27 (.cons (.ife (.p2 .eq (.call 22 (.cons (.v 0) (.cons (.int 2) .nil))) (.int 0)) (.v 2) (.p2 .sub (.int 0) (.v 2))) (.cons (.v 3) .nil)))))
theorem w__law_number (F__law_draw : Fct g m P w mg base 2 22 "_law_draw" st__law_draw ps__law_draw) (F__law_pick : Fct g m P w mg base 3 23 "_law_pick" st__law_pick ps__law_pick) (F__law_q : Fct g m P w mg base 1 27 "_law_q" st__law_q ps__law_q) (C : Cok g P w mg base 3 fr E N__law_number (defScope st__law_number) true X) : PSs X (defBody st__law_number) (rds g m fr E S__law_number) :=
  (s_seq (by first | exact s_par2 C (by decide +kernel) (by decide +kernel) (f_cons rfl (n_call C F__law_draw (by decide +kernel) rfl rfl rfl (n_cons rfl (n_v C (by decide +kernel)) (n_cons rfl (n_bin C rfl (n_o rfl (n_v C (by decide +kernel))) (n_o rfl n_int)) n_nil))) (f_cons rfl (n_bin C rfl (n_o rfl n_int) (n_o rfl (n_call C F__law_draw (by decide +kernel) rfl rfl rfl (n_cons rfl (n_v C (by decide +kernel)) (n_cons rfl (n_call C F__law_pick (by decide +kernel) rfl rfl rfl (n_cons rfl (n_v C (by decide +kernel)) (n_cons rfl (n_lst (n_cons rfl n_int (n_cons rfl n_int (n_cons rfl n_int (n_cons rfl (n_v C (by decide +kernel)) n_nil))))) n_nil))) n_nil))))) f_nil)) | exact s_parN C (by decide +kernel) rfl rfl (g_tp C rfl rfl (g_cons C (by decide +kernel) (g_cons C (by decide +kernel) g_nil rfl) rfl)) (f_cons rfl (n_call C F__law_draw (by decide +kernel) rfl rfl rfl (n_cons rfl (n_v C (by decide +kernel)) (n_cons rfl (n_bin C rfl (n_o rfl (n_v C (by decide +kernel))) (n_o rfl n_int)) n_nil))) (f_cons rfl (n_bin C rfl (n_o rfl n_int) (n_o rfl (n_call C F__law_draw (by decide +kernel) rfl rfl rfl (n_cons rfl (n_v C (by decide +kernel)) (n_cons rfl (n_call C F__law_pick (by decide +kernel) rfl rfl rfl (n_cons rfl (n_v C (by decide +kernel)) (n_cons rfl (n_lst (n_cons rfl n_int (n_cons rfl n_int (n_cons rfl n_int (n_cons rfl (n_v C (by decide +kernel)) n_nil))))) n_nil))) n_nil))))) f_nil)))
  (s_one (s_ret (n_call C F__law_q (by decide +kernel) rfl rfl rfl (n_cons rfl (n_ife (t_cmp C rfl (nomark _) (n_o rfl (n_call C F__law_draw (by decide +kernel) rfl rfl rfl (n_cons rfl (n_v C (by decide +kernel)) (n_cons rfl n_int n_nil)))) (n_o rfl n_int)) (n_v C (by decide +kernel)) (n_bin C rfl (n_o rfl n_int) (n_o rfl (n_v C (by decide +kernel))))) (n_cons rfl (n_v C (by decide +kernel)) n_nil))))))
abbrev N__law_le_marks : List Str := ["draws", "most", "at", "found", "lap"]
def B__law_le_marks_1 : S := (.seq (.app 3 (.v 2)) (.asg (.nm 2) (.call 28 (.cons (.v 2) (.cons (.call 27 (.cons (.p2 .add (.int 1) (.call 22 (.cons (.v 0) (.cons (.call 23 (.cons (.v 0) (.cons (.lst (.cons (.int 1) (.cons (.int 5) (.cons (.int 20) .nil)))) .nil))) .nil)))) (.cons (.call 23 (.cons (.v 0) (.cons (.lst (.cons (.int 1) (.cons (.int 1) (.cons (.int 2) (.cons (.int 3) .nil))))) .nil))) .nil))) .nil)))))
def S__law_le_marks : S := (.seq (.par [(2, false), (3, true)] (.cons (.call 34 (.cons (.v 0) (.cons (.int 9) .nil))) (.cons (.lst .nil) .nil))) (.seq (.for_ (.nm 4) (.irng (.p2 .add (.int 2) (.call 22 (.cons (.v 0) (.cons (.p2 .sub (.v 1) (.int 1)) .nil))))) B__law_le_marks_1) (.ret (.p1 .tuple (.pk 3)))))
theorem w__law_le_marks (B : Blt mg) (F__law_number : Fct g m P w mg base 4 34 "_law_number" st__law_number ps__law_number) (F__law_draw : Fct g m P w mg base 2 22 "_law_draw" st__law_draw ps__law_draw) (F__law_plus : Fct g m P w mg base 2 28 "_law_plus" st__law_plus ps__law_plus) (F__law_q : Fct g m P w mg base 1 27 "_law_q" st__law_q ps__law_q) (F__law_pick : Fct g m P w mg base 3 23 "_law_pick" st__law_pick ps__law_pick) (C : Cok g P w mg base 4 fr E N__law_le_marks (defScope st__law_le_marks) true X) : PSs X (defBody st__law_le_marks) (rds g m fr E S__law_le_marks) :=
  (s_seq (by first | exact s_par2 C (by decide +kernel) (by decide +kernel) (f_cons rfl (n_call C F__law_number (by decide +kernel) rfl rfl rfl (n_cons rfl (n_v C (by decide +kernel)) (n_cons rfl n_int n_nil))) (f_consL rfl n_nil f_nil)) | exact s_parN C (by decide +kernel) rfl rfl (g_tp C rfl rfl (g_cons C (by decide +kernel) (g_cons C (by decide +kernel) g_nil rfl) rfl)) (f_cons rfl (n_call C F__law_number (by decide +kernel) rfl rfl rfl (n_cons rfl (n_v C (by decide +kernel)) (n_cons rfl n_int n_nil))) (f_consL rfl n_nil f_nil)))
  (s_seq (s_for C rfl (fun _ => rfl) (i_rng C B (by decide +kernel) rfl (n_bin C rfl (n_o rfl n_int) (n_o rfl (n_call C F__law_draw (by decide +kernel) rfl rfl rfl (n_cons rfl (n_v C (by decide +kernel)) (n_cons rfl (n_bin C rfl (n_o rfl (n_v C (by decide +kernel))) (n_o rfl n_int)) n_nil)))))) (g_nm C (by decide +kernel)) (s_seq (s_app C (by decide +kernel) rfl rfl rfl rfl (n_v C (by decide +kernel)))
  (s_one (s_asg C rfl rfl rfl (g_nm C (by decide +kernel)) (n_call C F__law_plus (by decide +kernel) rfl rfl rfl (n_cons rfl (n_v C (by decide +kernel)) (n_cons rfl (n_call C F__law_q (by decide +kernel) rfl rfl rfl (n_cons rfl (n_bin C rfl (n_o rfl n_int) (n_o rfl (n_call C F__law_draw (by decide +kernel) rfl rfl rfl (n_cons rfl (n_v C (by decide +kernel)) (n_cons rfl (n_call C F__law_pick (by decide +kernel) rfl rfl rfl (n_cons rfl (n_v C (by decide +kernel)) (n_cons rfl (n_lst (n_cons rfl n_int (n_cons rfl n_int (n_cons rfl n_int n_nil)))) n_nil))) n_nil))))) (n_cons rfl (n_call C F__law_pick (by decide +kernel) rfl rfl rfl (n_cons rfl (n_v C (by decide +kernel)) (n_cons rfl (n_lst (n_cons rfl n_int (n_cons rfl n_int (n_cons rfl n_int (n_cons rfl n_int n_nil))))) n_nil))) n_nil))) n_nil)))))))
  (s_one (s_ret (n_tup1 C B (by decide +kernel) rfl (n_pk C (by decide +kernel)))))))
abbrev N__law_le_square : List Str := ["mark"]
def S__law_le_square : S := (.ret (.call 30 (.cons (.v 0) (.cons (.v 0) .nil))))
theorem w__law_le_square (F__law_times : Fct g m P w mg base 2 30 "_law_times" st__law_times ps__law_times) (C : Cok g P w mg base 2 fr E N__law_le_square (defScope st__law_le_square) true X) : PSs X (defBody st__law_le_square) (rds g m fr E S__law_le_square) :=
  (s_one (s_ret (n_call C F__law_times (by decide +kernel) rfl rfl rfl (n_cons rfl (n_v C (by decide +kernel)) (n_cons rfl (n_v C (by decide +kernel)) n_nil)))))
abbrev N__law_le_numbers : List Str := ["draws", "most", "points", "parts", "point", "part"]
def S__law_le_numbers : S := (.seq (.asg (.nm 2) (.ife (.p2 .gt (.call 22 (.cons (.v 0) (.cons (.int 6) .nil))) (.int 0)) (.call 35 (.cons (.v 0) (.cons (.v 1) .nil))) (.tup (.cons (.call 34 (.cons (.v 0) (.cons (.int 9) .nil))) .nil)))) (.seq (.asg (.nm 3) (.comp [4] (.p2 .add (.int 1) (.call 22 (.cons (.v 0) (.cons (.call 23 (.cons (.v 0) (.cons (.lst (.cons (.int 1) (.cons (.int 3) (.cons (.int 30) .nil)))) .nil))) .nil)))) (.nm 4) (.iseq (.v 2)) .nil)) (.ret (.p1 .tuple (.comp [4, 5] (.tup (.cons (.v 4) (.cons (.call 27 (.cons (.v 5) (.cons (.p1 .sum (.v 3)) .nil))) .nil))) (.tp [4, 5]) (.izip (.v 2) (.v 3)) .nil)))))
theorem w__law_le_numbers (B : Blt mg) (F__law_draw : Fct g m P w mg base 2 22 "_law_draw" st__law_draw ps__law_draw) (F__law_le_marks : Fct g m P w mg base 5 35 "_law_le_marks" st__law_le_marks ps__law_le_marks) (F__law_number : Fct g m P w mg base 4 34 "_law_number" st__law_number ps__law_number) (F__law_pick : Fct g m P w mg base 3 23 "_law_pick" st__law_pick ps__law_pick) (F__law_q : Fct g m P w mg base 1 27 "_law_q" st__law_q ps__law_q) (C : Cok g P w mg base 5 fr E N__law_le_numbers (defScope st__law_le_numbers) true X) : PSs X (defBody st__law_le_numbers) (rds g m fr E S__law_le_numbers) :=
  (s_seq (s_asg C rfl rfl rfl (g_nm C (by decide +kernel)) (n_ife (t_cmp C rfl (nomark _) (n_o rfl (n_call C F__law_draw (by decide +kernel) rfl rfl rfl (n_cons rfl (n_v C (by decide +kernel)) (n_cons rfl n_int n_nil)))) (n_o rfl n_int)) (n_call C F__law_le_marks (by decide +kernel) rfl rfl rfl (n_cons rfl (n_v C (by decide +kernel)) (n_cons rfl (n_v C (by decide +kernel)) n_nil))) (n_tup (n_cons rfl (n_call C F__law_number (by decide +kernel) rfl rfl rfl (n_cons rfl (n_v C (by decide +kernel)) (n_cons rfl n_int n_nil))) n_nil))))
  (s_seq (s_lc C rfl (s_setLc (own := [("point", 4)]) C (by decide +kernel) (by decide +kernel) (i_seq C (w_t (n_o rfl (n_v C (by decide +kernel))))) (fun {_} C1 => (g_nm C1 (by decide +kernel))) (fun {_} C1 => c_nil) (fun {_} C1 => (n_bin C1 rfl (n_o rfl n_int) (n_o rfl (n_call C1 F__law_draw (by decide +kernel) rfl rfl rfl (n_cons rfl (n_v C1 (by decide +kernel)) (n_cons rfl (n_call C1 F__law_pick (by decide +kernel) rfl rfl rfl (n_cons rfl (n_v C1 (by decide +kernel)) (n_cons rfl (n_lst (n_cons rfl n_int (n_cons rfl n_int (n_cons rfl n_int n_nil)))) n_nil))) n_nil)))))) (fun _ => rfl)))
  (s_one (s_ret (n_tup1 C B (by decide +kernel) rfl (n_o rfl (n_lc C rfl (n_comp (own := [("point", 4), ("part", 5)]) C (by decide +kernel) rfl  (i_zip C B (by decide +kernel) rfl rfl rfl (w_t (n_o rfl (n_v C (by decide +kernel)))) (w_t (n_o rfl (n_v C (by decide +kernel))))) (fun {_} C1 => (g_tp C1 rfl rfl (g_cons C1 (by decide +kernel) (g_cons C1 (by decide +kernel) g_nil rfl) rfl))) (fun {_} C1 => c_nil) (fun {_} C1 => (n_tup (n_cons rfl (n_v C1 (by decide +kernel)) (n_cons rfl (n_call C1 F__law_q (by decide +kernel) rfl rfl rfl (n_cons rfl (n_v C1 (by decide +kernel)) (n_cons rfl (n_sum C1 B (by decide +kernel) rfl (n_o rfl (n_v C1 (by decide +kernel)))) n_nil))) n_nil)))) (fun _ => rfl)))))))))
abbrev N__law_k75_off : List Str := ["numbers", "mean", "point", "chance"]
def S__law_k75_off : S := (.ret (.comp [2, 3] (.tup (.cons (.call 29 (.cons (.v 2) (.cons (.v 1) .nil))) (.cons (.v 3) .nil))) (.tp [2, 3]) (.iseq (.v 0)) .nil))
theorem w__law_k75_off (F__law_minus : Fct g m P w mg base 2 29 "_law_minus" st__law_minus ps__law_minus) (C : Cok g P w mg base 2 fr E N__law_k75_off (defScope st__law_k75_off) true X) : PSs X (defBody st__law_k75_off) (rds g m fr E S__law_k75_off) :=
  (s_one (s_ret (n_lc C rfl (n_comp (own := [("point", 2), ("chance", 3)]) C (by decide +kernel) rfl  (i_seq C (w_t (n_o rfl (n_v C (by decide +kernel))))) (fun {_} C1 => (g_tp C1 rfl rfl (g_cons C1 (by decide +kernel) (g_cons C1 (by decide +kernel) g_nil rfl) rfl))) (fun {_} C1 => c_nil) (fun {_} C1 => (n_tup (n_cons rfl (n_call C1 F__law_minus (by decide +kernel) rfl rfl rfl (n_cons rfl (n_v C1 (by decide +kernel)) (n_cons rfl (n_v C1 (by decide +kernel)) n_nil))) (n_cons rfl (n_v C1 (by decide +kernel)) n_nil)))) (fun _ => rfl)))))
abbrev N__law_k75_kind : List Str := ["error", "told", "at", "here"]
def S__law_k75_kind : S := (.seq (.asg (.nm 1) (.lst (.cons (.isi [.own 1] (.v 0)) (.cons (.isi [.own 2] (.v 0)) (.cons (.isi [.own 3] (.v 0)) .nil))))) (.ret (.comp [2, 3] (.v 2) (.tp [2, 3]) (.ienum (.v 1)) (.v 3))))
theorem w__law_k75_kind (B : Blt mg) (II : IsiF g m) (HN_3 : decide (3 < m.ncl) = true) (HN_1 : decide (1 < m.ncl) = true) (HN_2 : decide (2 < m.ncl) = true) (EF_BadNumbers : ExF g mg 1 "BadNumbers") (EF_BadSpread : ExF g mg 2 "BadSpread") (EF_BadGap : ExF g mg 3 "BadGap") (C : Cok g P w mg base 0 fr E N__law_k75_kind (defScope st__law_k75_kind) true X) : PSs X (defBody st__law_k75_kind) (rds g m fr E S__law_k75_kind) :=
  (s_seq (s_asg C rfl rfl rfl (g_nm C (by decide +kernel)) (n_lst (n_cons rfl (n_isiE C B II EF_BadNumbers HN_1 (by decide +kernel) (by decide +kernel) rfl rfl rfl (n_v C (by decide +kernel))) (n_cons rfl (n_isiE C B II EF_BadSpread HN_2 (by decide +kernel) (by decide +kernel) rfl rfl rfl (n_v C (by decide +kernel))) (n_cons rfl (n_isiE C B II EF_BadGap HN_3 (by decide +kernel) (by decide +kernel) rfl rfl rfl (n_v C (by decide +kernel))) n_nil)))))
  (s_one (s_ret (n_lc C rfl (n_comp (own := [("at", 2), ("here", 3)]) C (by decide +kernel) rfl  (i_enum C B (by decide +kernel) rfl (w_t (n_o rfl (n_v C (by decide +kernel))))) (fun {_} C1 => (g_tp C1 rfl rfl (g_cons C1 (by decide +kernel) (g_cons C1 (by decide +kernel) g_nil rfl) rfl))) (fun {_} C1 => (c_one rfl (t_val (fun _ => rfl) (n_v C1 (by decide +kernel))))) (fun {_} C1 => (n_v C1 (by decide +kernel))) (fun _ => rfl))))))
abbrev N_law : List Str := ["script", "draws", "turn", "numbers", "mean", "off", "width_here", "some", "at", "due", "middle", "far_here", "gap", "one", "square", "both", "own", "wide", "bad", "ask", "wrong", "low", "below", "upper", "told", "part", "chance", "point"]
def T_law_1 : S := (.ife (.an (.nt (.call 32 (.cons (.v 22) (.cons (.tup (.cons (.int 1) (.cons (.int 2) .nil))) .nil)))) (.nt (.call 32 (.cons (.v 23) (.cons (.tup (.cons (.int 1) (.cons (.int 2) .nil))) .nil))))) (.app 7 (.p2 .ix (.p2 .ix (.v 3) (.v 8)) (.int 0))) .skip)
def B_law_2 : S := (.seq (.par [(22, false), (23, false)] (.cons (.call 33 (.cons (.comp [27, 26] (.v 26) (.tp [27, 26]) (.iseq (.sl (.v 3) .nil (.p2 .add (.v 8) (.int 1)))) .nil) .nil)) (.cons (.call 33 (.cons (.comp [27, 26] (.v 26) (.tp [27, 26]) (.iseq (.sl (.v 3) (.v 8) .nil)) .nil) .nil)) .nil))) T_law_1)
def B_law_3 : S := (.ife (.call 32 (.cons (.v 6) (.cons (.call 36 (.cons (.call 29 (.cons (.v 10) (.cons (.v 4) .nil))) .nil)) .nil))) (.ret (.bl false)) .skip)
def T_law_4 : S := (.ife (.p2 .ne (.call 33 (.cons (.comp [27, 26] (.v 26) (.tp [27, 26]) (.iseq (.v 24)) (.nt (.call 32 (.cons (.v 27) (.cons (.v 12) .nil))))) .nil)) (.call 17 (.cons (.v 16) (.cons (.v 12) .nil)))) (.ret (.bl false)) .skip)
def T_law_5 : S := (.seq (.ife (.or (.nt (.call 26 (.cons (.call 13 (.cons (.v 24) .nil)) (.cons (.tup (.cons (.tup (.cons (.int 0) (.cons (.int 1) .nil))) (.cons (.v 16) .nil))) .nil)))) (.or (.nt (.call 26 (.cons (.callk 19 (.cons (.v 12) (.cons (.v 16) .nil)) [1, 0]) (.cons (.v 24) .nil)))) (.p2 .ne (.p1 .len (.v 24)) (.ife (.p2 .eq (.p2 .ix (.v 16) (.int 0)) (.int 0)) (.int 1) (.int 2))))) (.ret (.bl false)) .skip) T_law_4)
def B_law_6 : S := (.seq (.asg (.nm 24) (.call 19 (.cons (.v 16) (.cons (.v 12) .nil)))) T_law_5)
def B_law_7 : S := (.ife (.p2 .ne (.call 39 (.cons (.cau 0 (.callv 19 (.cons (.v 18) .nil))) .nil)) (.lst (.cons (.int 0) .nil))) (.ret (.bl false)) .skip)
def T_law_8 : S := (.ife (.p2 .ne (.call 39 (.cons (.cau 0 (.callv 19 (.cons (.v 6) (.cons (.v 21) .nil)))) .nil)) (.lst (.cons (.int 2) .nil))) (.ret (.bl false)) .skip)
def B_law_9 : S := (.seq (.ife (.p2 .ne (.call 39 (.cons (.cau 0 (.callv 19 (.cons (.v 20) (.cons (.v 21) .nil)))) .nil)) (.lst (.cons (.int 1) .nil))) (.ret (.bl false)) .skip) T_law_8)
def T_law_10 : S := (.for_ (.nm 19) (.iseq (.lst (.cons (.fnv 17) (.cons (.fnv 18) (.cons (.fnv 19) .nil))))) B_law_9)
def T_law_11 : S := (.seq (.par [(20, false), (21, false)] (.cons (.call 23 (.cons (.v 1) (.cons (.lst (.cons .non (.cons (.tup (.cons (.p1 .neg (.int 1)) (.cons (.int 2) .nil))) (.cons (.int 1) (.cons (.tup (.cons (.int 2) (.cons (.int 4) .nil))) .nil))))) .nil))) (.cons (.call 23 (.cons (.v 1) (.cons (.lst (.cons .non (.cons (.tup (.cons (.int 0) (.cons (.int 1) .nil))) (.cons (.tup (.cons (.p1 .neg (.int 1)) (.cons (.int 2) .nil))) (.cons (.int 1) (.cons (.tup (.cons (.int 2) (.cons (.int 4) .nil))) .nil)))))) .nil))) .nil))) T_law_10)
def T_law_12 : S := (.seq (.for_ (.nm 19) (.iseq (.lst (.cons (.fnv 13) (.cons (.fnv 14) .nil)))) B_law_7) T_law_11)
def T_law_13 : S := (.seq (.asg (.nm 18) (.call 23 (.cons (.v 1) (.cons (.p2 .add (.pk 7) (.ife (.p2 .gt (.p1 .len (.v 3)) (.int 1)) (.lst (.cons (.p1 .rev (.v 3)) .nil)) (.lst .nil))) .nil)))) T_law_12)
def T_law_14 : S := (.seq (.asgO 7 (.lst (.cons .non (.cons (.tup .nil) (.cons (.p1 .list (.v 3)) (.cons (.p2 .add (.v 3) (.sl (.v 3) (.p1 .neg (.int 1)) .nil)) (.cons (.v 17) (.cons (.p2 .add (.tup (.cons (.tup (.cons (.p2 .ix (.p2 .ix (.v 3) (.int 0)) (.int 0)) (.cons (.tup (.cons (.int 0) (.cons (.int 1) .nil))) .nil))) .nil)) (.v 3)) (.cons (.tup (.cons (.tup (.cons (.p2 .ix (.p2 .ix (.v 3) (.int 0)) (.int 0)) (.cons (.tup (.cons (.int 2) (.cons (.int 1) .nil))) .nil))) .nil)) .nil))))))))) T_law_13)
def T_law_15 : S := (.seq (.asg (.nm 17) (.p1 .tuple (.comp [8] (.tup (.cons (.tup (.cons (.v 8) (.cons (.int 1) .nil))) (.cons (.tup (.cons (.int 1) (.cons (.int 9) .nil))) .nil))) (.nm 8) (.irng (.int 9)) .nil))) T_law_14)
def T_law_16 : S := (.seq (.for_ (.nm 16) (.iseq (.lst (.cons (.v 6) (.cons (.tup (.cons (.int 0) (.cons (.int 1) .nil))) (.cons (.call 27 (.cons (.call 22 (.cons (.v 1) (.cons (.int 30) .nil))) (.cons (.p2 .add (.int 1) (.call 22 (.cons (.v 1) (.cons (.int 7) .nil)))) .nil))) .nil))))) B_law_6) T_law_15)
def T_law_17 : S := (.seq (.ife (.call 32 (.cons (.v 15) (.cons (.call 33 (.cons (.comp [25, 26] (.v 26) (.tp [25, 26]) (.iseq (.v 5)) (.nt (.call 32 (.cons (.tup (.cons (.p1 .abs (.p2 .ix (.v 25) (.int 0))) (.cons (.p2 .ix (.v 25) (.int 1)) .nil))) (.cons (.v 12) .nil))))) .nil)) .nil))) (.ret (.bl false)) .skip) T_law_16)
def T_law_18 : S := (.seq (.ife (.call 32 (.cons (.v 13) (.cons (.call 33 (.cons (.comp [25, 26] (.v 26) (.tp [25, 26]) (.iseq (.v 5)) (.nt (.call 32 (.cons (.v 25) (.cons (.v 12) .nil))))) .nil)) .nil))) (.ret (.bl false)) .skip) T_law_17)
def T_law_19 : S := (.seq (.ife (.nt (.call 26 (.cons (.lst (.cons (.call 17 (.cons (.v 6) (.cons (.v 12) .nil))) (.cons (.callk 17 (.cons (.v 12) (.cons (.v 6) .nil)) [1, 0]) (.cons (.call 18 (.cons (.v 6) (.cons (.v 12) .nil))) (.cons (.callk 18 (.cons (.v 12) (.cons (.v 6) .nil)) [1, 0]) .nil))))) (.cons (.lst (.cons (.v 13) (.cons (.v 13) (.cons (.v 15) (.cons (.v 15) .nil))))) .nil)))) (.ret (.bl false)) .skip) T_law_18)
def T_law_20 : S := (.seq (.asg (.nm 15) (.ife (.call 32 (.cons (.v 14) (.cons (.tup (.cons (.int 1) (.cons (.int 1) .nil))) .nil))) (.v 14) (.tup (.cons (.int 1) (.cons (.int 1) .nil))))) T_law_19)
def T_law_21 : S := (.seq (.par [(13, false), (14, false)] (.cons (.call 31 (.cons (.v 6) (.cons (.call 28 (.cons (.v 6) (.cons (.call 36 (.cons (.v 12) .nil)) .nil))) .nil))) (.cons (.call 31 (.cons (.v 6) (.cons (.call 36 (.cons (.v 12) .nil)) .nil))) .nil))) T_law_20)
def T_law_22 : S := (.seq (.asg (.nm 12) (.call 23 (.cons (.v 1) (.cons (.p2 .add (.v 11) (.lst (.cons (.call 27 (.cons (.p2 .add (.int 1) (.call 22 (.cons (.v 1) (.cons (.int 20) .nil)))) (.cons (.p2 .add (.int 1) (.call 22 (.cons (.v 1) (.cons (.int 5) .nil)))) .nil))) .nil))) .nil)))) T_law_21)
def T_law_23 : S := (.seq (.asg (.nm 11) (.comp [25, 26] (.v 25) (.tp [25, 26]) (.iseq (.v 5)) (.p2 .gt (.p2 .ix (.v 25) (.int 0)) (.int 0)))) T_law_22)
def T_law_24 : S := (.seq (.for_ (.nm 10) (.iseq (.v 9)) B_law_3) T_law_23)
def T_law_25 : S := (.seq (.ife (.nt (.call 26 (.cons (.lst (.cons (.call 14 (.cons (.v 3) .nil)) (.cons (.callk 14 (.cons (.v 3) .nil) [0]) .nil))) (.cons (.lst (.cons (.v 9) (.cons (.v 9) .nil))) .nil)))) (.ret (.bl false)) .skip) T_law_24)
def T_law_26 : S := (.seq (.asg (.nm 9) (.tup (.cons (.p2 .ix (.pk 7) (.int 0)) (.cons (.p2 .ix (.pk 7) (.p1 .neg (.int 1))) .nil)))) T_law_25)
def T_law_27 : S := (.seq (.for_ (.nm 8) (.irng (.p1 .len (.v 3))) B_law_2) T_law_26)
def T_law_28 : S := (.seq (.asgO 7 (.lst .nil)) T_law_27)
def T_law_29 : S := (.seq (.ife (.nt (.call 26 (.cons (.lst (.cons (.call 13 (.cons (.v 3) .nil)) (.cons (.callk 13 (.cons (.v 3) .nil) [0]) .nil))) (.cons (.p2 .mul (.lst (.cons (.tup (.cons (.v 4) (.cons (.v 6) .nil))) .nil)) (.int 2)) .nil)))) (.ret (.bl false)) .skip) T_law_28)
def T_law_30 : S := (.seq (.asg (.nm 6) (.call 33 (.cons (.comp [25, 26] (.call 30 (.cons (.call 36 (.cons (.v 25) .nil)) (.cons (.v 26) .nil))) (.tp [25, 26]) (.iseq (.v 5)) .nil) .nil))) T_law_29)
def T_law_31 : S := (.seq (.asg (.nm 5) (.call 38 (.cons (.v 3) (.cons (.v 4) .nil)))) T_law_30)
def T_law_32 : S := (.seq (.asg (.nm 4) (.call 33 (.cons (.comp [27, 26] (.call 30 (.cons (.v 27) (.cons (.v 26) .nil))) (.tp [27, 26]) (.iseq (.v 3)) .nil) .nil))) T_law_31)
def B_law_33 : S := (.seq (.asg (.nm 3) (.call 37 (.cons (.v 1) (.cons (.int 8) .nil)))) T_law_32)
def T_law_34 : S := (.ret (.bl true))
def T_law_35 : S := (.seq (.for_ (.nm 2) (.irng (.p2 .add (.int 4) (.p2 .min2 (.p1 .len (.v 0)) (.int 6)))) B_law_33) T_law_34)
def S_law : S := (.seq (.asg (.nm 1) (.call 20 (.cons (.v 0) .nil))) T_law_35)
theorem w_law (B : Blt mg) (F__law_begun : Fct g m P w mg base 1 20 "_law_begun" st__law_begun ps__law_begun) (F__law_le_numbers : Fct g m P w mg base 6 37 "_law_le_numbers" st__law_le_numbers ps__law_le_numbers) (F__law_sum : Fct g m P w mg base 3 33 "_law_sum" st__law_sum ps__law_sum) (F__law_times : Fct g m P w mg base 2 30 "_law_times" st__law_times ps__law_times) (F__law_k75_off : Fct g m P w mg base 3 38 "_law_k75_off" st__law_k75_off ps__law_k75_off) (F__law_le_square : Fct g m P w mg base 3 36 "_law_le_square" st__law_le_square ps__law_le_square) (F__law_same : Fct g m P w mg base 2 26 "_law_same" st__law_same ps__law_same) (F_mean_spread : Fct g m P w mg base 6 13 "mean_spread" st_mean_spread ps_mean_spread) (F__law_less : Fct g m P w mg base 1 32 "_law_less" st__law_less ps__law_less) (F_middles : Fct g m P w mg base 6 14 "middles" st_middles ps_middles) (F__law_minus : Fct g m P w mg base 2 29 "_law_minus" st__law_minus ps__law_minus) (F__law_pick : Fct g m P w mg base 3 23 "_law_pick" st__law_pick ps__law_pick) (F__law_q : Fct g m P w mg base 1 27 "_law_q" st__law_q ps__law_q) (F__law_draw : Fct g m P w mg base 2 22 "_law_draw" st__law_draw ps__law_draw) (F__law_over : Fct g m P w mg base 2 31 "_law_over" st__law_over ps__law_over) (F__law_plus : Fct g m P w mg base 2 28 "_law_plus" st__law_plus ps__law_plus) (F_spread_chance : Fct g m P w mg base 4 17 "spread_chance" st_spread_chance ps_spread_chance) (F_both_chance : Fct g m P w mg base 4 18 "both_chance" st_both_chance ps_both_chance) (F_spread_numbers : Fct g m P w mg base 4 19 "spread_numbers" st_spread_numbers ps_spread_numbers) (F__law_k75_kind : Fct g m P w mg base 1 39 "_law_k75_kind" st__law_k75_kind ps__law_k75_kind) {c : Addr} (CAU : CauF g m mg base 0 24 st__law_caught c) (HC : X.env.code = .ref c) (HQ : X.env.qual ++ "<lambda>" = g.tq) (A : HeldF g m P w mg base 7) (C : Cok g P w mg base 9 fr E N_law (defScope st_law) true X) : PSs X (defBody st_law) (rds g m fr E S_law) :=
  (s_seq (s_asg C rfl rfl rfl (g_nm C (by decide +kernel)) (n_call C F__law_begun (by decide +kernel) rfl rfl rfl (n_cons rfl (n_v C (by decide +kernel)) n_nil)))
  (s_seq (s_for C rfl (fun _ => rfl) (i_rng C B (by decide +kernel) rfl (n_bin C rfl (n_o rfl n_int) (n_o rfl (n_min2 C B (by decide +kernel) rfl rfl rfl (n_o rfl (n_len C B (by decide +kernel) rfl (n_o rfl (n_v C (by decide +kernel))))) (n_o rfl n_int))))) (g_nm C (by decide +kernel)) (s_seq (s_asg C rfl rfl rfl (g_nm C (by decide +kernel)) (n_call C F__law_le_numbers (by decide +kernel) rfl rfl rfl (n_cons rfl (n_v C (by decide +kernel)) (n_cons rfl n_int n_nil))))
  (s_seq (s_asg C rfl rfl rfl (g_nm C (by decide +kernel)) (n_call C F__law_sum (by decide +kernel) rfl rfl rfl (n_cons rfl (n_lc C rfl (n_comp (own := [("point", 27), ("chance", 26)]) C (by decide +kernel) rfl  (i_seq C (w_t (n_o rfl (n_v C (by decide +kernel))))) (fun {_} C1 => (g_tp C1 rfl rfl (g_cons C1 (by decide +kernel) (g_cons C1 (by decide +kernel) g_nil rfl) rfl))) (fun {_} C1 => c_nil) (fun {_} C1 => (n_call C1 F__law_times (by decide +kernel) rfl rfl rfl (n_cons rfl (n_v C1 (by decide +kernel)) (n_cons rfl (n_v C1 (by decide +kernel)) n_nil)))) (fun _ => rfl))) n_nil)))
  (s_seq (s_asg C rfl rfl rfl (g_nm C (by decide +kernel)) (n_call C F__law_k75_off (by decide +kernel) rfl rfl rfl (n_cons rfl (n_v C (by decide +kernel)) (n_cons rfl (n_v C (by decide +kernel)) n_nil))))
  (s_seq (s_asg C rfl rfl rfl (g_nm C (by decide +kernel)) (n_call C F__law_sum (by decide +kernel) rfl rfl rfl (n_cons rfl (n_lc C rfl (n_comp (own := [("part", 25), ("chance", 26)]) C (by decide +kernel) rfl  (i_seq C (w_t (n_o rfl (n_v C (by decide +kernel))))) (fun {_} C1 => (g_tp C1 rfl rfl (g_cons C1 (by decide +kernel) (g_cons C1 (by decide +kernel) g_nil rfl) rfl))) (fun {_} C1 => c_nil) (fun {_} C1 => (n_call C1 F__law_times (by decide +kernel) rfl rfl rfl (n_cons rfl (n_call C1 F__law_le_square (by decide +kernel) rfl rfl rfl (n_cons rfl (n_v C1 (by decide +kernel)) n_nil)) (n_cons rfl (n_v C1 (by decide +kernel)) n_nil)))) (fun _ => rfl))) n_nil)))
  (s_seq (s_if (t_nt (t_val (fun _ => rfl) (n_call C F__law_same (by decide +kernel) rfl rfl rfl (n_cons rfl (n_lst (n_cons rfl (n_call C F_mean_spread (by decide +kernel) rfl rfl rfl (n_cons rfl (n_v C (by decide +kernel)) n_nil)) (n_cons rfl (n_callk (ks := ["numbers"]) C F_mean_spread (by decide +kernel) rfl (fun _ _ _ _ _ _ ws hl => match ws, hl with | [_], _ => rfl) rfl rfl rfl rfl (k_cons (n_v C (by decide +kernel)) k_nil)) n_nil))) (n_cons rfl (n_bin C rfl (n_o rfl (n_lst (n_cons rfl (n_tup (n_cons rfl (n_v C (by decide +kernel)) (n_cons rfl (n_v C (by decide +kernel)) n_nil))) n_nil))) (n_o rfl n_int)) n_nil))))) (s_one (s_ret n_bl)) s_skip)
  (s_seq (s_asgO C (by decide +kernel) rfl (n_lstF n_nil))
  (s_seq (s_for C rfl (fun _ => rfl) (i_rng C B (by decide +kernel) rfl (n_len C B (by decide +kernel) rfl (n_o rfl (n_v C (by decide +kernel))))) (g_nm C (by decide +kernel)) (s_seq (by first | exact s_par2 C (by decide +kernel) (by decide +kernel) (f_cons rfl (n_call C F__law_sum (by decide +kernel) rfl rfl rfl (n_cons rfl (n_lc C rfl (n_comp (own := [("point", 27), ("chance", 26)]) C (by decide +kernel) rfl  (i_seq C (w_t (n_o rfl (n_sl C (n_o rfl (n_v C (by decide +kernel))) n_pno (n_pso rfl (n_bin C rfl (n_o rfl (n_v C (by decide +kernel))) (n_o rfl n_int))))))) (fun {_} C1 => (g_tp C1 rfl rfl (g_cons C1 (by decide +kernel) (g_cons C1 (by decide +kernel) g_nil rfl) rfl))) (fun {_} C1 => c_nil) (fun {_} C1 => (n_v C1 (by decide +kernel))) (fun _ => rfl))) n_nil)) (f_cons rfl (n_call C F__law_sum (by decide +kernel) rfl rfl rfl (n_cons rfl (n_lc C rfl (n_comp (own := [("point", 27), ("chance", 26)]) C (by decide +kernel) rfl  (i_seq C (w_t (n_o rfl (n_sl C (n_o rfl (n_v C (by decide +kernel))) (n_pso rfl (n_v C (by decide +kernel))) n_pno)))) (fun {_} C1 => (g_tp C1 rfl rfl (g_cons C1 (by decide +kernel) (g_cons C1 (by decide +kernel) g_nil rfl) rfl))) (fun {_} C1 => c_nil) (fun {_} C1 => (n_v C1 (by decide +kernel))) (fun _ => rfl))) n_nil)) f_nil)) | exact s_parN C (by decide +kernel) rfl rfl (g_tp C rfl rfl (g_cons C (by decide +kernel) (g_cons C (by decide +kernel) g_nil rfl) rfl)) (f_cons rfl (n_call C F__law_sum (by decide +kernel) rfl rfl rfl (n_cons rfl (n_lc C rfl (n_comp (own := [("point", 27), ("chance", 26)]) C (by decide +kernel) rfl  (i_seq C (w_t (n_o rfl (n_sl C (n_o rfl (n_v C (by decide +kernel))) n_pno (n_pso rfl (n_bin C rfl (n_o rfl (n_v C (by decide +kernel))) (n_o rfl n_int))))))) (fun {_} C1 => (g_tp C1 rfl rfl (g_cons C1 (by decide +kernel) (g_cons C1 (by decide +kernel) g_nil rfl) rfl))) (fun {_} C1 => c_nil) (fun {_} C1 => (n_v C1 (by decide +kernel))) (fun _ => rfl))) n_nil)) (f_cons rfl (n_call C F__law_sum (by decide +kernel) rfl rfl rfl (n_cons rfl (n_lc C rfl (n_comp (own := [("point", 27), ("chance", 26)]) C (by decide +kernel) rfl  (i_seq C (w_t (n_o rfl (n_sl C (n_o rfl (n_v C (by decide +kernel))) (n_pso rfl (n_v C (by decide +kernel))) n_pno)))) (fun {_} C1 => (g_tp C1 rfl rfl (g_cons C1 (by decide +kernel) (g_cons C1 (by decide +kernel) g_nil rfl) rfl))) (fun {_} C1 => c_nil) (fun {_} C1 => (n_v C1 (by decide +kernel))) (fun _ => rfl))) n_nil)) f_nil)))
  (s_one (s_if (t_w (t_an (t_nt (t_val (fun _ => rfl) (n_call C F__law_less (by decide +kernel) rfl rfl rfl (n_cons rfl (n_v C (by decide +kernel)) (n_cons rfl (n_tup (n_cons rfl n_int (n_cons rfl n_int n_nil))) n_nil))))) (t_an1 (t_nt (t_val (fun _ => rfl) (n_call C F__law_less (by decide +kernel) rfl rfl rfl (n_cons rfl (n_v C (by decide +kernel)) (n_cons rfl (n_tup (n_cons rfl n_int (n_cons rfl n_int n_nil))) n_nil)))))))) (s_one (s_app C (by decide +kernel) rfl rfl rfl rfl (n_ix C (fun _ _ => rfl) (n_o rfl (n_ix C (fun _ _ => rfl) (n_o rfl (n_v C (by decide +kernel))) (n_o rfl (n_v C (by decide +kernel))))) (n_o rfl n_int)))) s_skip))))
  (s_seq (s_asg C rfl rfl rfl (g_nm C (by decide +kernel)) (n_tup (n_cons rfl (n_ix C (fun _ _ => rfl) (n_pk C (by decide +kernel)) (n_o rfl n_int)) (n_cons rfl (n_ix C (fun _ _ => rfl) (n_pk C (by decide +kernel)) (n_o rfl (n_neg C (n_o rfl n_int)))) n_nil))))
  (s_seq (s_if (t_nt (t_val (fun _ => rfl) (n_call C F__law_same (by decide +kernel) rfl rfl rfl (n_cons rfl (n_lst (n_cons rfl (n_call C F_middles (by decide +kernel) rfl rfl rfl (n_cons rfl (n_v C (by decide +kernel)) n_nil)) (n_cons rfl (n_callk (ks := ["numbers"]) C F_middles (by decide +kernel) rfl (fun _ _ _ _ _ _ ws hl => match ws, hl with | [_], _ => rfl) rfl rfl rfl rfl (k_cons (n_v C (by decide +kernel)) k_nil)) n_nil))) (n_cons rfl (n_lst (n_cons rfl (n_v C (by decide +kernel)) (n_cons rfl (n_v C (by decide +kernel)) n_nil))) n_nil))))) (s_one (s_ret n_bl)) s_skip)
  (s_seq (s_for C rfl (fun _ => rfl) (i_seq C (w_f rfl (n_v C (by decide +kernel)))) (g_nm C (by decide +kernel)) (s_one (s_if (t_val (fun _ => rfl) (n_call C F__law_less (by decide +kernel) rfl rfl rfl (n_cons rfl (n_v C (by decide +kernel)) (n_cons rfl (n_call C F__law_le_square (by decide +kernel) rfl rfl rfl (n_cons rfl (n_call C F__law_minus (by decide +kernel) rfl rfl rfl (n_cons rfl (n_v C (by decide +kernel)) (n_cons rfl (n_v C (by decide +kernel)) n_nil))) n_nil)) n_nil)))) (s_one (s_ret n_bl)) s_skip)))
  (s_seq (s_lc C rfl (s_setLc (own := [("part", 25), ("chance", 26)]) C (by decide +kernel) (by decide +kernel) (i_seq C (w_t (n_o rfl (n_v C (by decide +kernel))))) (fun {_} C1 => (g_tp C1 rfl rfl (g_cons C1 (by decide +kernel) (g_cons C1 (by decide +kernel) g_nil rfl) rfl))) (fun {_} C1 => (c_one rfl (t_cmp C1 rfl (nomark _) (n_o rfl (n_ix C1 (fun _ _ => rfl) (n_o rfl (n_v C1 (by decide +kernel))) (n_o rfl n_int))) (n_o rfl n_int)))) (fun {_} C1 => (n_v C1 (by decide +kernel))) (fun _ => rfl)))
  (s_seq (s_asg C rfl rfl rfl (g_nm C (by decide +kernel)) (n_call C F__law_pick (by decide +kernel) rfl rfl rfl (n_cons rfl (n_v C (by decide +kernel)) (n_cons rfl (n_bin C rfl (n_o rfl (n_v C (by decide +kernel))) (n_o rfl (n_lst (n_cons rfl (n_call C F__law_q (by decide +kernel) rfl rfl rfl (n_cons rfl (n_bin C rfl (n_o rfl n_int) (n_o rfl (n_call C F__law_draw (by decide +kernel) rfl rfl rfl (n_cons rfl (n_v C (by decide +kernel)) (n_cons rfl n_int n_nil))))) (n_cons rfl (n_bin C rfl (n_o rfl n_int) (n_o rfl (n_call C F__law_draw (by decide +kernel) rfl rfl rfl (n_cons rfl (n_v C (by decide +kernel)) (n_cons rfl n_int n_nil))))) n_nil))) n_nil)))) n_nil))))
  (s_seq (by first | exact s_par2 C (by decide +kernel) (by decide +kernel) (f_cons rfl (n_call C F__law_over (by decide +kernel) rfl rfl rfl (n_cons rfl (n_v C (by decide +kernel)) (n_cons rfl (n_call C F__law_plus (by decide +kernel) rfl rfl rfl (n_cons rfl (n_v C (by decide +kernel)) (n_cons rfl (n_call C F__law_le_square (by decide +kernel) rfl rfl rfl (n_cons rfl (n_v C (by decide +kernel)) n_nil)) n_nil))) n_nil))) (f_cons rfl (n_call C F__law_over (by decide +kernel) rfl rfl rfl (n_cons rfl (n_v C (by decide +kernel)) (n_cons rfl (n_call C F__law_le_square (by decide +kernel) rfl rfl rfl (n_cons rfl (n_v C (by decide +kernel)) n_nil)) n_nil))) f_nil)) | exact s_parN C (by decide +kernel) rfl rfl (g_tp C rfl rfl (g_cons C (by decide +kernel) (g_cons C (by decide +kernel) g_nil rfl) rfl)) (f_cons rfl (n_call C F__law_over (by decide +kernel) rfl rfl rfl (n_cons rfl (n_v C (by decide +kernel)) (n_cons rfl (n_call C F__law_plus (by decide +kernel) rfl rfl rfl (n_cons rfl (n_v C (by decide +kernel)) (n_cons rfl (n_call C F__law_le_square (by decide +kernel) rfl rfl rfl (n_cons rfl (n_v C (by decide +kernel)) n_nil)) n_nil))) n_nil))) (f_cons rfl (n_call C F__law_over (by decide +kernel) rfl rfl rfl (n_cons rfl (n_v C (by decide +kernel)) (n_cons rfl (n_call C F__law_le_square (by decide +kernel) rfl rfl rfl (n_cons rfl (n_v C (by decide +kernel)) n_nil)) n_nil))) f_nil)))
  (s_seq (s_asg C rfl rfl rfl (g_nm C (by decide +kernel)) (n_ife (t_val (fun _ => rfl) (n_call C F__law_less (by decide +kernel) rfl rfl rfl (n_cons rfl (n_v C (by decide +kernel)) (n_cons rfl (n_tup (n_cons rfl n_int (n_cons rfl n_int n_nil))) n_nil)))) (n_v C (by decide +kernel)) (n_tup (n_cons rfl n_int (n_cons rfl n_int n_nil)))))
  (s_seq (s_if (t_nt (t_val (fun _ => rfl) (n_call C F__law_same (by decide +kernel) rfl rfl rfl (n_cons rfl (n_lst (n_cons rfl (n_call C F_spread_chance (by decide +kernel) rfl rfl rfl (n_cons rfl (n_v C (by decide +kernel)) (n_cons rfl (n_v C (by decide +kernel)) n_nil))) (n_cons rfl (n_callk (ks := ["gap", "spread"]) C F_spread_chance (by decide +kernel) rfl (fun _ _ _ _ _ _ ws hl => match ws, hl with | [_, _], _ => rfl) rfl rfl rfl rfl (k_cons (n_v C (by decide +kernel)) (k_cons (n_v C (by decide +kernel)) k_nil))) (n_cons rfl (n_call C F_both_chance (by decide +kernel) rfl rfl rfl (n_cons rfl (n_v C (by decide +kernel)) (n_cons rfl (n_v C (by decide +kernel)) n_nil))) (n_cons rfl (n_callk (ks := ["gap", "spread"]) C F_both_chance (by decide +kernel) rfl (fun _ _ _ _ _ _ ws hl => match ws, hl with | [_, _], _ => rfl) rfl rfl rfl rfl (k_cons (n_v C (by decide +kernel)) (k_cons (n_v C (by decide +kernel)) k_nil))) n_nil))))) (n_cons rfl (n_lst (n_cons rfl (n_v C (by decide +kernel)) (n_cons rfl (n_v C (by decide +kernel)) (n_cons rfl (n_v C (by decide +kernel)) (n_cons rfl (n_v C (by decide +kernel)) n_nil))))) n_nil))))) (s_one (s_ret n_bl)) s_skip)
  (s_seq (s_if (t_val (fun _ => rfl) (n_call C F__law_less (by decide +kernel) rfl rfl rfl (n_cons rfl (n_v C (by decide +kernel)) (n_cons rfl (n_call C F__law_sum (by decide +kernel) rfl rfl rfl (n_cons rfl (n_lc C rfl (n_comp (own := [("part", 25), ("chance", 26)]) C (by decide +kernel) rfl  (i_seq C (w_t (n_o rfl (n_v C (by decide +kernel))))) (fun {_} C1 => (g_tp C1 rfl rfl (g_cons C1 (by decide +kernel) (g_cons C1 (by decide +kernel) g_nil rfl) rfl))) (fun {_} C1 => (c_one rfl (t_nt (t_val (fun _ => rfl) (n_call C1 F__law_less (by decide +kernel) rfl rfl rfl (n_cons rfl (n_v C1 (by decide +kernel)) (n_cons rfl (n_v C1 (by decide +kernel)) n_nil))))))) (fun {_} C1 => (n_v C1 (by decide +kernel))) (fun _ => rfl))) n_nil)) n_nil)))) (s_one (s_ret n_bl)) s_skip)
  (s_seq (s_if (t_val (fun _ => rfl) (n_call C F__law_less (by decide +kernel) rfl rfl rfl (n_cons rfl (n_v C (by decide +kernel)) (n_cons rfl (n_call C F__law_sum (by decide +kernel) rfl rfl rfl (n_cons rfl (n_lc C rfl (n_comp (own := [("part", 25), ("chance", 26)]) C (by decide +kernel) rfl  (i_seq C (w_t (n_o rfl (n_v C (by decide +kernel))))) (fun {_} C1 => (g_tp C1 rfl rfl (g_cons C1 (by decide +kernel) (g_cons C1 (by decide +kernel) g_nil rfl) rfl))) (fun {_} C1 => (c_one rfl (t_nt (t_val (fun _ => rfl) (n_call C1 F__law_less (by decide +kernel) rfl rfl rfl (n_cons rfl (n_tup (n_cons rfl (n_abs C1 B (by decide +kernel) rfl (n_o rfl (n_ix C1 (fun _ _ => rfl) (n_o rfl (n_v C1 (by decide +kernel))) (n_o rfl n_int)))) (n_cons rfl (n_ix C1 (fun _ _ => rfl) (n_o rfl (n_v C1 (by decide +kernel))) (n_o rfl n_int)) n_nil))) (n_cons rfl (n_v C1 (by decide +kernel)) n_nil))))))) (fun {_} C1 => (n_v C1 (by decide +kernel))) (fun _ => rfl))) n_nil)) n_nil)))) (s_one (s_ret n_bl)) s_skip)
  (s_seq (s_for C rfl (fun _ => rfl) (i_seq C (w_f rfl (n_lst (n_cons rfl (n_v C (by decide +kernel)) (n_cons rfl (n_tup (n_cons rfl n_int (n_cons rfl n_int n_nil))) (n_cons rfl (n_call C F__law_q (by decide +kernel) rfl rfl rfl (n_cons rfl (n_call C F__law_draw (by decide +kernel) rfl rfl rfl (n_cons rfl (n_v C (by decide +kernel)) (n_cons rfl n_int n_nil))) (n_cons rfl (n_bin C rfl (n_o rfl n_int) (n_o rfl (n_call C F__law_draw (by decide +kernel) rfl rfl rfl (n_cons rfl (n_v C (by decide +kernel)) (n_cons rfl n_int n_nil))))) n_nil))) n_nil)))))) (g_nm C (by decide +kernel)) (s_seq (s_asg C rfl rfl rfl (g_nm C (by decide +kernel)) (n_call C F_spread_numbers (by decide +kernel) rfl rfl rfl (n_cons rfl (n_v C (by decide +kernel)) (n_cons rfl (n_v C (by decide +kernel)) n_nil))))
  (s_seq (s_if (t_w (t_or (t_nt (t_val (fun _ => rfl) (n_call C F__law_same (by decide +kernel) rfl rfl rfl (n_cons rfl (n_call C F_mean_spread (by decide +kernel) rfl rfl rfl (n_cons rfl (n_v C (by decide +kernel)) n_nil)) (n_cons rfl (n_tup (n_cons rfl (n_tup (n_cons rfl n_int (n_cons rfl n_int n_nil))) (n_cons rfl (n_v C (by decide +kernel)) n_nil))) n_nil))))) (t_or (t_nt (t_val (fun _ => rfl) (n_call C F__law_same (by decide +kernel) rfl rfl rfl (n_cons rfl (n_callk (ks := ["gap", "spread"]) C F_spread_numbers (by decide +kernel) rfl (fun _ _ _ _ _ _ ws hl => match ws, hl with | [_, _], _ => rfl) rfl rfl rfl rfl (k_cons (n_v C (by decide +kernel)) (k_cons (n_v C (by decide +kernel)) k_nil))) (n_cons rfl (n_v C (by decide +kernel)) n_nil))))) (t_or1 (t_cmp C rfl (nomark _) (n_o rfl (n_len C B (by decide +kernel) rfl (n_o rfl (n_v C (by decide +kernel))))) (n_o rfl (n_ife (t_cmp C rfl (nomark _) (n_o rfl (n_ix C (fun _ _ => rfl) (n_o rfl (n_v C (by decide +kernel))) (n_o rfl n_int))) (n_o rfl n_int)) n_int n_int))))))) (s_one (s_ret n_bl)) s_skip)
  (s_one (s_if (t_cmp C rfl (nomark _) (n_o rfl (n_call C F__law_sum (by decide +kernel) rfl rfl rfl (n_cons rfl (n_lc C rfl (n_comp (own := [("point", 27), ("chance", 26)]) C (by decide +kernel) rfl  (i_seq C (w_t (n_o rfl (n_v C (by decide +kernel))))) (fun {_} C1 => (g_tp C1 rfl rfl (g_cons C1 (by decide +kernel) (g_cons C1 (by decide +kernel) g_nil rfl) rfl))) (fun {_} C1 => (c_one rfl (t_nt (t_val (fun _ => rfl) (n_call C1 F__law_less (by decide +kernel) rfl rfl rfl (n_cons rfl (n_v C1 (by decide +kernel)) (n_cons rfl (n_v C1 (by decide +kernel)) n_nil))))))) (fun {_} C1 => (n_v C1 (by decide +kernel))) (fun _ => rfl))) n_nil))) (n_o rfl (n_call C F_spread_chance (by decide +kernel) rfl rfl rfl (n_cons rfl (n_v C (by decide +kernel)) (n_cons rfl (n_v C (by decide +kernel)) n_nil))))) (s_one (s_ret n_bl)) s_skip)))))
  (s_seq (s_asg C rfl rfl rfl (g_nm C (by decide +kernel)) (n_tup1 C B (by decide +kernel) rfl (n_o rfl (n_lc C rfl (n_comp (own := [("at", 8)]) C (by decide +kernel) rfl  (i_rng C B (by decide +kernel) rfl n_int) (fun {_} C1 => (g_nm C1 (by decide +kernel))) (fun {_} C1 => c_nil) (fun {_} C1 => (n_tup (n_cons rfl (n_tup (n_cons rfl (n_v C1 (by decide +kernel)) (n_cons rfl n_int n_nil))) (n_cons rfl (n_tup (n_cons rfl n_int (n_cons rfl n_int n_nil))) n_nil)))) (fun _ => rfl))))))
  (s_seq (s_asgO C (by decide +kernel) rfl (n_lstF (n_cons rfl n_non (n_cons rfl (n_tup n_nil) (n_cons rfl (n_lst1 C B (by decide +kernel) rfl (n_o rfl (n_v C (by decide +kernel)))) (n_cons rfl (n_bin C rfl (n_o rfl (n_v C (by decide +kernel))) (n_o rfl (n_sl C (n_o rfl (n_v C (by decide +kernel))) (n_pso rfl (n_neg C (n_o rfl n_int))) n_pno))) (n_cons rfl (n_v C (by decide +kernel)) (n_cons rfl (n_bin C rfl (n_o rfl (n_tup (n_cons rfl (n_tup (n_cons rfl (n_ix C (fun _ _ => rfl) (n_o rfl (n_ix C (fun _ _ => rfl) (n_o rfl (n_v C (by decide +kernel))) (n_o rfl n_int))) (n_o rfl n_int)) (n_cons rfl (n_tup (n_cons rfl n_int (n_cons rfl n_int n_nil))) n_nil))) n_nil))) (n_o rfl (n_v C (by decide +kernel)))) (n_cons rfl (n_tup (n_cons rfl (n_tup (n_cons rfl (n_ix C (fun _ _ => rfl) (n_o rfl (n_ix C (fun _ _ => rfl) (n_o rfl (n_v C (by decide +kernel))) (n_o rfl n_int))) (n_o rfl n_int)) (n_cons rfl (n_tup (n_cons rfl n_int (n_cons rfl n_int n_nil))) n_nil))) n_nil)) n_nil)))))))))
  (s_seq (s_asg C rfl rfl rfl (g_nm C (by decide +kernel)) (n_call C F__law_pick (by decide +kernel) rfl rfl rfl (n_cons rfl (n_v C (by decide +kernel)) (n_cons rfl (n_bin C rfl (n_pk C (by decide +kernel)) (n_o rfl (n_ife (t_cmp C rfl (nomark _) (n_o rfl (n_len C B (by decide +kernel) rfl (n_o rfl (n_v C (by decide +kernel))))) (n_o rfl n_int)) (n_lst (n_cons rfl (n_rev C (n_o rfl (n_v C (by decide +kernel)))) n_nil)) (n_lst n_nil)))) n_nil))))
  (s_seq (s_for C rfl (fun _ => rfl) (i_seq C (w_f rfl (n_lst (n_cons rfl (n_fnv C F_mean_spread (by decide +kernel)) (n_cons rfl (n_fnv C F_middles (by decide +kernel)) n_nil))))) (g_nm C (by decide +kernel)) (s_one (s_if (t_cmp C rfl (nomark _) (n_o rfl (n_call C F__law_k75_kind (by decide +kernel) rfl rfl rfl (n_cons rfl (n_cau C CAU HC HQ (by decide +kernel) (by decide +kernel) rfl (fun _ _ _ _ _ => rfl) (fun {_} {_} {_} C1 => (n_callv C1 A (by decide +kernel) rfl rfl (n_cons rfl (n_v C1 (by decide +kernel)) n_nil)))) n_nil))) (n_o rfl (n_lst (n_cons rfl n_int n_nil)))) (s_one (s_ret n_bl)) s_skip)))
  (s_seq (s_parN C (by decide +kernel) rfl rfl (g_tp C rfl rfl (g_cons C (by decide +kernel) (g_cons C (by decide +kernel) g_nil rfl) rfl)) (f_cons rfl (n_call C F__law_pick (by decide +kernel) rfl rfl rfl (n_cons rfl (n_v C (by decide +kernel)) (n_cons rfl (n_lst (n_cons rfl n_non (n_cons rfl (n_tup (n_cons rfl (n_neg C (n_o rfl n_int)) (n_cons rfl n_int n_nil))) (n_cons rfl n_int (n_cons rfl (n_tup (n_cons rfl n_int (n_cons rfl n_int n_nil))) n_nil))))) n_nil))) (f_cons rfl (n_call C F__law_pick (by decide +kernel) rfl rfl rfl (n_cons rfl (n_v C (by decide +kernel)) (n_cons rfl (n_lst (n_cons rfl n_non (n_cons rfl (n_tup (n_cons rfl n_int (n_cons rfl n_int n_nil))) (n_cons rfl (n_tup (n_cons rfl (n_neg C (n_o rfl n_int)) (n_cons rfl n_int n_nil))) (n_cons rfl n_int (n_cons rfl (n_tup (n_cons rfl n_int (n_cons rfl n_int n_nil))) n_nil)))))) n_nil))) f_nil)))
  (s_one (s_for C rfl (fun _ => rfl) (i_seq C (w_f rfl (n_lst (n_cons rfl (n_fnv C F_spread_chance (by decide +kernel)) (n_cons rfl (n_fnv C F_both_chance (by decide +kernel)) (n_cons rfl (n_fnv C F_spread_numbers (by decide +kernel)) n_nil)))))) (g_nm C (by decide +kernel)) (s_seq (s_if (t_cmp C rfl (nomark _) (n_o rfl (n_call C F__law_k75_kind (by decide +kernel) rfl rfl rfl (n_cons rfl (n_cau C CAU HC HQ (by decide +kernel) (by decide +kernel) rfl (fun _ _ _ _ _ => rfl) (fun {_} {_} {_} C1 => (n_callv C1 A (by decide +kernel) rfl rfl (n_cons rfl (n_v C1 (by decide +kernel)) (n_cons rfl (n_v C1 (by decide +kernel)) n_nil))))) n_nil))) (n_o rfl (n_lst (n_cons rfl n_int n_nil)))) (s_one (s_ret n_bl)) s_skip)
  (s_one (s_if (t_cmp C rfl (nomark _) (n_o rfl (n_call C F__law_k75_kind (by decide +kernel) rfl rfl rfl (n_cons rfl (n_cau C CAU HC HQ (by decide +kernel) (by decide +kernel) rfl (fun _ _ _ _ _ => rfl) (fun {_} {_} {_} C1 => (n_callv C1 A (by decide +kernel) rfl rfl (n_cons rfl (n_v C1 (by decide +kernel)) (n_cons rfl (n_v C1 (by decide +kernel)) n_nil))))) n_nil))) (n_o rfl (n_lst (n_cons rfl n_int n_nil)))) (s_one (s_ret n_bl)) s_skip)))))))))))))))))))))))))))))
  (s_one (s_ret n_bl))))
end
end K75

set_option Elab.async false
set_option linter.all false
set_option maxRecDepth 100000
set_option maxHeartbeats 4000000
/-! plain laws: ratios -/
namespace K75
open PySem PySem.Spec PyProof.Rows L2 PV

def rD (q : Rat) : D := .tup [.int q.num, .int q.den]
/-- small numbers -/
def Sz (k : Nat) (q : Rat) : Prop := q.num.natAbs < 2 ^ k ∧ q.den < 2 ^ k
theorem low_eq (n d : Int) (hd : d ≠ 0) : (n.fdiv (if 0 < d then ((Nat.gcd n.natAbs d.natAbs : Nat) : Int) else -((Nat.gcd n.natAbs d.natAbs : Nat) : Int)) = (Rat.divInt n d).num) ∧ (d.fdiv (if 0 < d then ((Nat.gcd n.natAbs d.natAbs : Nat) : Int) else -((Nat.gcd n.natAbs d.natAbs : Nat) : Int)) = (Rat.divInt n d).den) := by
  have hg : 0 < Nat.gcd n.natAbs d.natAbs := Nat.gcd_pos_of_pos_right _ (by omega)
  have gn : ((Nat.gcd n.natAbs d.natAbs : Nat) : Int) ∣ n := Int.dvd_natAbs.mp (Int.natCast_dvd_natCast.mpr (Nat.gcd_dvd_left _ _))
  have gd : ((Nat.gcd n.natAbs d.natAbs : Nat) : Int) ∣ d := Int.dvd_natAbs.mp (Int.natCast_dvd_natCast.mpr (Nat.gcd_dvd_right _ _))
  have eg : d.gcd n = Nat.gcd n.natAbs d.natAbs := by rw [Int.gcd_comm]; rfl
  rw [Rat.num_divInt, Rat.den_divInt, eg, if_neg hd]
  generalize Nat.gcd n.natAbs d.natAbs = g at *
  obtain ⟨a, rfl⟩ := gn
  obtain ⟨b, rfl⟩ := gd
  have g0 : (g : Int) ≠ 0 := by omega
  by_cases h : 0 < (g : Int) * b
  · rw [if_pos h, Int.sign_eq_one_of_pos h, Int.one_mul]
    have hb : 0 < b := by
      by_cases hb : 0 < b
      · exact hb
      · have := Int.mul_le_mul_of_nonneg_left (show b ≤ 0 by omega) (Int.natCast_nonneg g)
        rw [Int.mul_zero] at this
        omega
    rw [Int.mul_fdiv_cancel_left _ g0, Int.mul_fdiv_cancel_left _ g0, Int.mul_ediv_cancel_left _ g0]
    refine ⟨rfl, ?_⟩
    rw [Int.natAbs_mul, Int.natAbs_natCast, Nat.mul_div_cancel_left _ hg]
    omega
  · have h' : (g : Int) * b < 0 := by omega
    rw [if_neg h, Int.sign_eq_neg_one_of_neg h']
    have e1 : ∀ x : Int, ((g : Int) * x).fdiv (-(g : Int)) = -x := fun x => by
      have : (g : Int) * x = (-(g : Int)) * (-x) := by rw [Int.neg_mul_neg]
      rw [this, Int.mul_fdiv_cancel_left _ (by omega)]
    have hb : b < 0 := by
      by_cases hb : b < 0
      · exact hb
      · have := Int.mul_nonneg (Int.natCast_nonneg g) (show 0 ≤ b by omega)
        omega
    rw [e1, e1]
    refine ⟨?_, ?_⟩
    · have : -1 * ((g : Int) * a) = (g : Int) * (-a) := by rw [Int.neg_mul, Int.one_mul, Int.mul_neg]
      rw [this, Int.mul_ediv_cancel_left _ g0]
    · rw [Int.natAbs_mul, Int.natAbs_natCast, Nat.mul_div_cancel_left _ hg]
      omega
def spLow : PV.Spec where
  run ds M Q E := ∃ n d : Int, ds = [.int n, .int d] ∧ d ≠ 0 ∧ d.natAbs < 2 ^ 8100 ∧ Q (rD (Rat.divInt n d)) M
  mono := fun ⟨n, d, h1, h2, h3, h4⟩ q _ => ⟨n, d, h1, h2, h3, q _ _ h4⟩
theorem log_lt {n k : Nat} (h : n < 2 ^ k) (hk : 0 < k) : n.log2 < k := by
  by_cases h0 : n = 0
  · subst h0; simpa using hk
  · exact (Nat.log2_lt h0).mpr h
theorem p_lowest {m : Sm} {ds : List D} {M : Ms} {Q : D → Ms → Prop} {E : Ex} (h : spLow.run ds M Q E) : ws m S_lowest E (startR N_lowest ds) M { nx := fun _ M' => Q .non M', rt := Q } := by
  obtain ⟨n, d, rfl, hd, hs, q⟩ := h
  obtain ⟨e1, e2⟩ := low_eq n d hd
  have hg : (Nat.gcd n.natAbs d.natAbs).log2 < 9000 := by
    have : Nat.gcd n.natAbs d.natAbs ≤ d.natAbs := Nat.gcd_le_right _ (by omega)
    exact Nat.lt_of_lt_of_le (log_lt (Nat.lt_of_le_of_lt this hs) (by decide)) (by decide)
  have h0 : ((Nat.gcd n.natAbs d.natAbs : Nat) : Int) ≠ 0 := by
    have := Nat.gcd_pos_of_pos_right n.natAbs (show 0 < d.natAbs by omega)
    omega
  simp only [S_lowest, N_lowest, ws, wx, wl, wi, opd, prt, tst, val, ownv, startR, w1, w2, wII, wint, wb, bt, opt, sq, sqL, sqi, tyOf, isTy, setp, sets, wsl, cturn, fl, cl, List.map_cons, List.map_nil, List.length_cons, List.length_nil, List.nil_append, List.cons_append, List.append_nil, List.replicate, List.getElem?_cons_zero, List.getElem?_cons_succ, List.getElem?_nil, List.set_cons_zero, List.set_cons_succ, List.set_nil, Nat.zero_add, Nat.reduceAdd, Nat.reduceSub, Nat.sub_self, Nat.reduceLT, Nat.lt_add_one, Nat.zero_lt_succ, true_and, and_true, if_true, if_false, Bool.true_eq, Bool.false_eq_true, reduceIte, isNon, List.all_cons, List.all_nil, List.any_cons, List.any_nil, Bool.and_true, Bool.true_and, Bool.or_false, Bool.false_or, Bool.and_false, Bool.false_and, Bool.or_true, Bool.true_or, Bool.not_true, Bool.not_false, Bool.xor_false, Bool.false_xor, Bool.true_xor, Bool.xor_true, List.isEmpty_nil, List.isEmpty_cons, clr, atI_0, atI_1, atI_2, atI_n1, asBls, asInts, dEq_int, dOk_int, dDep_int, Nat.min_self, decide_eq_true_eq, Nat.zero_le, Nat.not_lt_zero, List.cons.injEq, exists_eq_left', exists_and_left, Option.map_some, id_eq, decide_true, decide_false, Bool.not_eq_true, ne_eq, not_true_eq_false, not_false_eq_true]
  have e1' := e1
  have e2' := e2
  by_cases h : 0 < d
  · rw [if_pos h] at e1 e2
    simp only [if_pos h]
    refine ⟨⟨h0, hg⟩, ⟨h0, hg⟩, by decide, ?_⟩
    rw [e1, e2]; exact q
  · rw [if_neg h] at e1 e2
    simp only [if_neg h]
    have hg' : (-((Nat.gcd n.natAbs d.natAbs : Nat) : Int)).natAbs.log2 < 9000 := by rw [Int.natAbs_neg]; exact hg
    refine ⟨⟨by omega, hg'⟩, ⟨by omega, hg'⟩, by decide, ?_⟩
    rw [e1, e2]; exact q
end K75

set_option Elab.async false
set_option linter.all false
set_option maxRecDepth 100000
set_option maxHeartbeats 4000000
/-! plain laws: looks at values -/
namespace K75
open PySem PySem.Spec PyProof.Rows L2 PV

mutual
/-- data: no functions, exceptions, shared objects -/
def pl : D → Bool
  | .non => true
  | .bl _ => true
  | .int _ => true
  | .str _ => true
  | .tup xs => decide (xs.length ≤ 1000) && pls xs
  | .lst xs => decide (xs.length ≤ 1000) && pls xs
  | .scr _ => true
  | _ => false
def pls : List D → Bool
  | [] => true
  | x :: xs => pl x && pls xs
end
theorem pls_mem : ∀ {xs : List D} {x : D}, pls xs = true → x ∈ xs → pl x = true
  | [], _, _, h => by simp at h
  | y :: ys, x, h, hm => by
    have h : (pl y && pls ys) = true := h
    rw [Bool.and_eq_true] at h
    rcases List.mem_cons.mp hm with rfl | hm
    · exact h.1
    · exact pls_mem h.2 hm
theorem kn_pl {m : Sm} {d : D} {cs : List Ty} (h : pl d = true) (hc : (cs.all fun c => match c with
    | .own _ => false
    | _ => true) = true) : isKn m d cs = true := by
  cases d <;> first | exact hc | cases h
def isWh : D → Bool
  | .int _ => true
  | _ => false
def isRat : D → Bool
  | .tup [.int n, .int d] => decide (0 < d) && decide (Nat.gcd n.natAbs d.natAbs = 1)
  | _ => false
def isCh (d : D) : Bool := isRat d && match d with
  | .tup [.int n, .int e] => decide (0 ≤ n) && decide (n ≤ e)
  | _ => false
theorem rat_iff {d : D} : isRat d = true ↔ ∃ n e : Int, d = .tup [.int n, .int e] ∧ 0 < e ∧ Nat.gcd n.natAbs e.natAbs = 1 := by
  constructor
  · intro h
    unfold isRat at h
    split at h
    · rw [Bool.and_eq_true, decide_eq_true_eq, decide_eq_true_eq] at h
      exact ⟨_, _, rfl, h⟩
    · cases h
  · rintro ⟨n, e, rfl, h1, h2⟩
    show (decide (0 < e) && decide (Nat.gcd n.natAbs e.natAbs = 1)) = true
    rw [Bool.and_eq_true, decide_eq_true_eq, decide_eq_true_eq]
    exact ⟨h1, h2⟩
def spB (f : D → Bool) : PV.Spec where
  run ds M Q E := ∃ d, ds = [d] ∧ pl d = true ∧ Q (.bl (f d)) M
  mono := fun ⟨n, h1, h2, h3⟩ q _ => ⟨n, h1, h2, q _ _ h3⟩
theorem p_is_whole {m : Sm} {ds : List D} {M : Ms} {Q : D → Ms → Prop} {E : Ex} (h : (spB isWh).run ds M Q E) : ws m S_is_whole E (startR N_is_whole ds) M { nx := fun _ M' => Q .non M', rt := Q } := by
  obtain ⟨d, rfl, hp, q⟩ := h
  have k1 : isKn m d [.int] = true := kn_pl hp rfl
  have k2 : isKn m d [.bool] = true := kn_pl hp rfl
  simp only [S_is_whole, N_is_whole, ws, wx, val, startR, wb, List.map_cons, List.map_nil, List.length_cons, List.length_nil, List.cons_append, List.nil_append, List.getElem?_cons_zero, k1, k2, true_and, List.any_cons, List.any_nil, Bool.or_false]
  cases d <;> first | cases hp; done | exact q
theorem wh_int {a : D} (h : isWh a = true) : ∃ i, a = .int i := by
  cases a <;> first | exact ⟨_, rfl⟩ | cases h
theorem rat_two {a b : D} : isRat (.tup [a, b]) = true → (isWh a = true ∧ isWh b = true) := by
  intro h
  cases a <;> cases b <;> first | cases h; done | exact ⟨rfl, rfl⟩
theorem pl_tup {xs : List D} : pl (.tup xs) = true ↔ xs.length ≤ 1000 ∧ pls xs = true := by
  show (decide (xs.length ≤ 1000) && pls xs) = true ↔ _
  rw [Bool.and_eq_true, decide_eq_true_eq]
theorem pl_lst {xs : List D} : pl (.lst xs) = true ↔ xs.length ≤ 1000 ∧ pls xs = true := by
  show (decide (xs.length ≤ 1000) && pls xs) = true ↔ _
  rw [Bool.and_eq_true, decide_eq_true_eq]
theorem p_is_ratio {m : Sm} (h0 : m.fn 0 = spB isWh) {ds : List D} {M : Ms} {Q : D → Ms → Prop} {E : Ex} (h : (spB isRat).run ds M Q E) : ws m S_is_ratio E (startR N_is_ratio ds) M { nx := fun _ M' => Q .non M', rt := Q } := by
  obtain ⟨d, rfl, hp, q⟩ := h
  have k1 : isKn m d [.tup] = true := kn_pl hp rfl
  by_cases ht : ∃ xs, d = .tup xs
  · obtain ⟨xs, rfl⟩ := ht
    obtain ⟨hl, hp⟩ := pl_tup.mp hp
    by_cases h2 : ∃ a b, xs = [a, b]
    · obtain ⟨a, b, rfl⟩ := h2
      have ha : pl a = true := pls_mem hp (by simp)
      have hb : pl b = true := pls_mem hp (by simp)
      simp only [S_is_ratio, N_is_ratio, ws, wx, wl, wi, opd, prt, tst, val, ownv, startR, w1, w2, wII, wint, wb, bt, opt, sq, sqL, sqi, tyOf, isTy, setp, sets, wsl, cturn, fl, cl, List.map_cons, List.map_nil, List.length_cons, List.length_nil, List.nil_append, List.cons_append, List.append_nil, List.replicate, List.getElem?_cons_zero, List.getElem?_cons_succ, List.getElem?_nil, List.set_cons_zero, List.set_cons_succ, List.set_nil, Nat.zero_add, Nat.reduceAdd, Nat.reduceSub, Nat.sub_self, Nat.reduceLT, Nat.lt_add_one, Nat.zero_lt_succ, true_and, and_true, if_true, if_false, Bool.true_eq, Bool.false_eq_true, reduceIte, isNon, List.all_cons, List.all_nil, List.any_cons, List.any_nil, Bool.and_true, Bool.true_and, Bool.or_false, Bool.false_or, Bool.and_false, Bool.false_and, Bool.or_true, Bool.true_or, Bool.not_true, Bool.not_false, Bool.xor_false, Bool.false_xor, Bool.true_xor, Bool.xor_true, List.isEmpty_nil, List.isEmpty_cons, clr, atI_0, atI_1, atI_2, atI_n1, asBls, asInts, dEq_int, dOk_int, dDep_int, Nat.min_self, decide_eq_true_eq, Nat.zero_le, Nat.not_lt_zero, List.cons.injEq, exists_eq_left', exists_and_left, Option.map_some, id_eq, decide_true, decide_false, Bool.not_eq_true, ne_eq, not_true_eq_false, not_false_eq_true, k1, h0, spB, ha, hb]
      refine ⟨by decide, ?_⟩
      simp
      by_cases hw : isWh a = false ∨ isWh b = false
      · rw [if_pos hw]
        have e : isRat (.tup [a, b]) = false := by
          cases e : isRat (.tup [a, b]) with
          | false => rfl
          | true =>
            obtain ⟨h1, h2⟩ := rat_two e
            rw [h1, h2] at hw
            rcases hw with hw | hw <;> cases hw
        rw [e] at q; exact q
      · rw [if_neg hw]
        simp only [not_or, Bool.not_eq_false] at hw
        obtain ⟨i, rfl⟩ := wh_int hw.1
        obtain ⟨j, rfl⟩ := wh_int hw.2
        have q : Q (D.bl (decide (0 < j) && decide (Nat.gcd i.natAbs j.natAbs = 1))) M := q
        by_cases hj : 0 < j
        · simp only [if_pos hj]
          rw [decide_eq_true hj, Bool.true_and] at q
          have e : ((((Nat.gcd i.natAbs j.natAbs : Nat) : Int)) == 1) = decide (Nat.gcd i.natAbs j.natAbs = 1) := by
            rw [Bool.eq_iff_iff, beq_iff_eq, decide_eq_true_eq]
            omega
          rw [e]; exact q
        · simp only [if_neg hj]
          rw [decide_eq_false hj, Bool.false_and] at q
          exact q
    · have e : isRat (.tup xs) = false := by
        rw [Bool.eq_false_iff]
        intro z
        obtain ⟨n, e, h, _⟩ := rat_iff.mp z
        cases h
        exact h2 ⟨_, _, rfl⟩
      have hn : (((xs.length : Int)) == 2) = false := by
        rw [Bool.eq_false_iff]
        intro z
        have z := eq_of_beq z
        match xs, h2 with
        | [], _ => simp at z
        | [_], _ => simp at z
        | [a, b], h2 => exact h2 ⟨a, b, rfl⟩
        | _ :: _ :: _ :: _, _ => simp at z; omega
      rw [e] at q
      simp only [S_is_ratio, N_is_ratio, ws, wx, wl, wi, opd, prt, tst, val, ownv, startR, w1, w2, wII, wint, wb, bt, opt, sq, sqL, sqi, tyOf, isTy, setp, sets, wsl, cturn, fl, cl, List.map_cons, List.map_nil, List.length_cons, List.length_nil, List.nil_append, List.cons_append, List.append_nil, List.replicate, List.getElem?_cons_zero, List.getElem?_cons_succ, List.getElem?_nil, List.set_cons_zero, List.set_cons_succ, List.set_nil, Nat.zero_add, Nat.reduceAdd, Nat.reduceSub, Nat.sub_self, Nat.reduceLT, Nat.lt_add_one, Nat.zero_lt_succ, true_and, and_true, if_true, if_false, Bool.true_eq, Bool.false_eq_true, reduceIte, isNon, List.all_cons, List.all_nil, List.any_cons, List.any_nil, Bool.and_true, Bool.true_and, Bool.or_false, Bool.false_or, Bool.and_false, Bool.false_and, Bool.or_true, Bool.true_or, Bool.not_true, Bool.not_false, Bool.xor_false, Bool.false_xor, Bool.true_xor, Bool.xor_true, List.isEmpty_nil, List.isEmpty_cons, clr, atI_0, atI_1, atI_2, atI_n1, asBls, asInts, dEq_int, dOk_int, dDep_int, Nat.min_self, decide_eq_true_eq, Nat.zero_le, Nat.not_lt_zero, List.cons.injEq, exists_eq_left', exists_and_left, Option.map_some, id_eq, decide_true, decide_false, Bool.not_eq_true, ne_eq, not_true_eq_false, not_false_eq_true, k1, hn]
      exact q
  · have e : isRat d = false := by cases d <;> first | rfl | exact absurd ⟨_, rfl⟩ ht
    have e2 : tyOf d .tup = false := by cases d <;> first | rfl | exact absurd ⟨_, rfl⟩ ht
    have e3 : isTy m d .tup = false := by cases d <;> first | rfl | exact absurd ⟨_, rfl⟩ ht
    rw [e] at q
    simp only [S_is_ratio, N_is_ratio, ws, wx, val, startR, wb, List.map_cons, List.map_nil, List.length_cons, List.length_nil, List.cons_append, List.nil_append, List.getElem?_cons_zero, k1, true_and, List.any_cons, List.any_nil, Bool.or_false, e3, Bool.not_false, if_true]
    exact q
theorem p_is_chance {m : Sm} (h1 : m.fn 1 = spB isRat) {ds : List D} {M : Ms} {Q : D → Ms → Prop} {E : Ex} (h : (spB isCh).run ds M Q E) : ws m S_is_chance E (startR N_is_chance ds) M { nx := fun _ M' => Q .non M', rt := Q } := by
  obtain ⟨d, rfl, hp, q⟩ := h
  simp only [S_is_chance, N_is_chance, ws, wx, wl, wi, opd, prt, tst, val, ownv, startR, w1, w2, wII, wint, wb, bt, opt, sq, sqL, sqi, tyOf, isTy, setp, sets, wsl, cturn, fl, cl, List.map_cons, List.map_nil, List.length_cons, List.length_nil, List.nil_append, List.cons_append, List.append_nil, List.replicate, List.getElem?_cons_zero, List.getElem?_cons_succ, List.getElem?_nil, List.set_cons_zero, List.set_cons_succ, List.set_nil, Nat.zero_add, Nat.reduceAdd, Nat.reduceSub, Nat.sub_self, Nat.reduceLT, Nat.lt_add_one, Nat.zero_lt_succ, true_and, and_true, if_true, if_false, Bool.true_eq, Bool.false_eq_true, reduceIte, isNon, List.all_cons, List.all_nil, List.any_cons, List.any_nil, Bool.and_true, Bool.true_and, Bool.or_false, Bool.false_or, Bool.and_false, Bool.false_and, Bool.or_true, Bool.true_or, Bool.not_true, Bool.not_false, Bool.xor_false, Bool.false_xor, Bool.true_xor, Bool.xor_true, List.isEmpty_nil, List.isEmpty_cons, clr, atI_0, atI_1, atI_2, atI_n1, asBls, asInts, dEq_int, dOk_int, dDep_int, Nat.min_self, decide_eq_true_eq, Nat.zero_le, Nat.not_lt_zero, List.cons.injEq, exists_eq_left', exists_and_left, Option.map_some, id_eq, decide_true, decide_false, Bool.not_eq_true, ne_eq, not_true_eq_false, not_false_eq_true, h1, spB, hp]
  cases e : isRat d with
  | false =>
    have e2 : isCh d = false := by unfold isCh; rw [e]; rfl
    rw [e2] at q
    exact q
  | true =>
    obtain ⟨n, b, rfl, _⟩ := rat_iff.mp e
    have q : Q (.bl (isRat (.tup [.int n, .int b]) && (decide (0 ≤ n) && decide (n ≤ b)))) M := q
    rw [e, Bool.true_and] at q
    simp only [ws, wx, wl, wi, opd, prt, tst, val, ownv, startR, w1, w2, wII, wint, wb, bt, opt, sq, sqL, sqi, tyOf, isTy, setp, sets, wsl, cturn, fl, cl, List.map_cons, List.map_nil, List.length_cons, List.length_nil, List.nil_append, List.cons_append, List.append_nil, List.replicate, List.getElem?_cons_zero, List.getElem?_cons_succ, List.getElem?_nil, List.set_cons_zero, List.set_cons_succ, List.set_nil, Nat.zero_add, Nat.reduceAdd, Nat.reduceSub, Nat.sub_self, Nat.reduceLT, Nat.lt_add_one, Nat.zero_lt_succ, true_and, and_true, if_true, if_false, Bool.true_eq, Bool.false_eq_true, reduceIte, isNon, List.all_cons, List.all_nil, List.any_cons, List.any_nil, Bool.and_true, Bool.true_and, Bool.or_false, Bool.false_or, Bool.and_false, Bool.false_and, Bool.or_true, Bool.true_or, Bool.not_true, Bool.not_false, Bool.xor_false, Bool.false_xor, Bool.true_xor, Bool.xor_true, List.isEmpty_nil, List.isEmpty_cons, clr, atI_0, atI_1, atI_2, atI_n1, asBls, asInts, dEq_int, dOk_int, dDep_int, Nat.min_self, decide_eq_true_eq, Nat.zero_le, Nat.not_lt_zero, List.cons.injEq, exists_eq_left', exists_and_left, Option.map_some, id_eq, decide_true, decide_false, Bool.not_eq_true, ne_eq, not_true_eq_false, not_false_eq_true]
    by_cases h0 : 0 ≤ n
    · simp only [if_pos h0]
      rw [decide_eq_true h0, Bool.true_and] at q
      exact q
    · simp only [if_neg h0]
      rw [decide_eq_false h0, Bool.false_and] at q
      exact q
end K75

set_option Elab.async false
set_option linter.all false
set_option maxRecDepth 100000
set_option maxHeartbeats 4000000
/-! plain laws: arithmetic of ratios -/
namespace K75
open PySem PySem.Spec PyProof.Rows L2 PV

theorem mulC_of {i j : Int} {k l : Nat} (hi : i.natAbs < 2 ^ k) (hj : j.natAbs < 2 ^ l) (hk : k ≤ 20000) (hl : l ≤ 20000) : MulC i j := by
  have h : ∀ {n k : Nat}, n < 2 ^ k → n.log2 ≤ k := fun {n k} h => by
    by_cases h0 : n = 0
    · subst h0; simp
    · exact Nat.le_of_lt ((Nat.log2_lt h0).mpr h)
  have h1 := h hi
  have h2 := h hj
  unfold MulC
  omega
theorem rD_inj {a b : Rat} : rD a = rD b ↔ a = b := by
  constructor
  · intro h
    unfold rD at h
    injection h with h
    injection h with h1 h2
    injection h2 with h2 _
    injection h1 with h1
    injection h2 with h2
    exact Rat.ext h1 (by omega)
  · rintro rfl; rfl
theorem den0 (a : Rat) : (a.den : Int) ≠ 0 := by
  have := a.den_nz
  omega
theorem add_q (a b : Rat) : Rat.divInt (a.num * b.den + b.num * a.den) (a.den * b.den) = a + b := by
  rw [← Rat.divInt_add_divInt _ _ (den0 a) (den0 b), Rat.num_divInt_den, Rat.num_divInt_den]
theorem sub_q (a b : Rat) : Rat.divInt (a.num * b.den - b.num * a.den) (a.den * b.den) = a - b := by
  rw [← Rat.divInt_sub_divInt _ _ (den0 a) (den0 b), Rat.num_divInt_den, Rat.num_divInt_den]
theorem mul_q (a b : Rat) : Rat.divInt (a.num * b.num) (a.den * b.den) = a * b := by
  rw [← Rat.divInt_mul_divInt, Rat.num_divInt_den, Rat.num_divInt_den]
theorem div_q (a b : Rat) : Rat.divInt (a.num * b.den) (a.den * b.num) = a / b := by
  have h : b⁻¹ = Rat.divInt b.den b.num := by
    have := Rat.inv_divInt b.num b.den
    rw [Rat.num_divInt_den] at this
    exact this
  rw [Rat.div_def, h, ← Rat.divInt_mul_divInt, Rat.num_divInt_den]
def spR2 (f : Rat → Rat → Rat) (pre : Rat → Rat → Prop) : PV.Spec where
  run ds M Q E := ∃ a b : Rat, ds = [rD a, rD b] ∧ (Sz 4000 a ∧ Sz 4000 b ∧ pre a b) ∧ Q (rD (f a b)) M
  mono := fun ⟨a, b, h1, h2, h3⟩ q _ => ⟨a, b, h1, h2, q _ _ h3⟩
def spLess : PV.Spec where
  run ds M Q E := ∃ a b : Rat, ds = [rD a, rD b] ∧ (Sz 4000 a ∧ Sz 4000 b) ∧ Q (.bl (decide (a < b))) M
  mono := fun ⟨a, b, h1, h2, h3⟩ q _ => ⟨a, b, h1, h2, q _ _ h3⟩
theorem mulS {a b : Rat} {i j : Int} (ha : Sz 4000 a) (hb : Sz 4000 b) (hi : i = a.num ∨ i = a.den ∨ i = b.num ∨ i = b.den) (hj : j = a.num ∨ j = a.den ∨ j = b.num ∨ j = b.den) : MulC i j := by
  have h : ∀ {i : Int}, (i = a.num ∨ i = a.den ∨ i = b.num ∨ i = b.den) → i.natAbs < 2 ^ 4000 := fun {i} hi => by
    rcases hi with rfl | rfl | rfl | rfl
    · exact ha.1
    · exact ha.2
    · exact hb.1
    · exact hb.2
  exact mulC_of (h hi) (h hj) (by decide) (by decide)
theorem denS {a b : Rat} (ha : Sz 4000 a) (hb : Sz 4000 b) : ((a.den : Int) * (b.den : Int)).natAbs < 2 ^ 8100 := by
  rw [Int.natAbs_mul]
  have h1 : a.den * b.den < 2 ^ 4000 * 2 ^ 4000 := Nat.mul_lt_mul_of_lt_of_lt ha.2 hb.2
  have h2 : (2 : Nat) ^ 4000 * 2 ^ 4000 ≤ 2 ^ 8100 := by rw [← Nat.pow_add]; exact Nat.pow_le_pow_right (by decide) (by decide)
  exact Nat.lt_of_lt_of_le h1 h2
theorem den00 (a b : Rat) : (a.den : Int) * (b.den : Int) ≠ 0 := Int.mul_ne_zero (den0 a) (den0 b)
theorem numS {a b : Rat} (ha : Sz 4000 a) (hb : Sz 4000 b) : ((a.den : Int) * b.num).natAbs < 2 ^ 8100 := by
  rw [Int.natAbs_mul]
  have h1 : a.den * b.num.natAbs < 2 ^ 4000 * 2 ^ 4000 := Nat.mul_lt_mul_of_lt_of_lt ha.2 hb.1
  have h2 : (2 : Nat) ^ 4000 * 2 ^ 4000 ≤ 2 ^ 8100 := by rw [← Nat.pow_add]; exact Nat.pow_le_pow_right (by decide) (by decide)
  exact Nat.lt_of_lt_of_le h1 h2
section
variable {m : Sm} {ds : List D} {M : Ms} {Q : D → Ms → Prop} {E : Ex}
theorem p_plus (h3 : m.fn 3 = spLow) (h : (spR2 (fun a b => a + b) fun _ _ => True).run ds M Q E) : ws m S_plus E (startR N_plus ds) M { nx := fun _ M' => Q .non M', rt := Q } := by
  obtain ⟨a, b, rfl, ⟨ha, hb, _⟩, q⟩ := h
  simp only [S_plus, N_plus, rD, ws, wx, wl, wi, opd, prt, tst, val, ownv, startR, w1, w2, wII, wint, wb, bt, opt, sq, sqL, sqi, tyOf, isTy, setp, sets, wsl, cturn, fl, cl, List.map_cons, List.map_nil, List.length_cons, List.length_nil, List.nil_append, List.cons_append, List.append_nil, List.replicate, List.getElem?_cons_zero, List.getElem?_cons_succ, List.getElem?_nil, List.set_cons_zero, List.set_cons_succ, List.set_nil, Nat.zero_add, Nat.reduceAdd, Nat.reduceSub, Nat.sub_self, Nat.reduceLT, Nat.lt_add_one, Nat.zero_lt_succ, true_and, and_true, if_true, if_false, Bool.true_eq, Bool.false_eq_true, reduceIte, isNon, List.all_cons, List.all_nil, List.any_cons, List.any_nil, Bool.and_true, Bool.true_and, Bool.or_false, Bool.false_or, Bool.and_false, Bool.false_and, Bool.or_true, Bool.true_or, Bool.not_true, Bool.not_false, Bool.xor_false, Bool.false_xor, Bool.true_xor, Bool.xor_true, List.isEmpty_nil, List.isEmpty_cons, clr, atI_0, atI_1, atI_2, atI_n1, asBls, asInts, dEq_int, dOk_int, dDep_int, Nat.min_self, decide_eq_true_eq, Nat.zero_le, Nat.not_lt_zero, List.cons.injEq, exists_eq_left', exists_and_left, Option.map_some, id_eq, decide_true, decide_false, Bool.not_eq_true, ne_eq, not_true_eq_false, not_false_eq_true, h3]
  exact ⟨mulS ha hb (by simp) (by simp), mulS ha hb (by simp) (by simp), mulS ha hb (by simp) (by simp), _, _, rfl, den00 a b, denS ha hb, by rw [add_q]; exact q⟩
theorem p_minus (h3 : m.fn 3 = spLow) (h : (spR2 (fun a b => a - b) fun _ _ => True).run ds M Q E) : ws m S_minus E (startR N_minus ds) M { nx := fun _ M' => Q .non M', rt := Q } := by
  obtain ⟨a, b, rfl, ⟨ha, hb, _⟩, q⟩ := h
  simp only [S_minus, N_minus, rD, ws, wx, wl, wi, opd, prt, tst, val, ownv, startR, w1, w2, wII, wint, wb, bt, opt, sq, sqL, sqi, tyOf, isTy, setp, sets, wsl, cturn, fl, cl, List.map_cons, List.map_nil, List.length_cons, List.length_nil, List.nil_append, List.cons_append, List.append_nil, List.replicate, List.getElem?_cons_zero, List.getElem?_cons_succ, List.getElem?_nil, List.set_cons_zero, List.set_cons_succ, List.set_nil, Nat.zero_add, Nat.reduceAdd, Nat.reduceSub, Nat.sub_self, Nat.reduceLT, Nat.lt_add_one, Nat.zero_lt_succ, true_and, and_true, if_true, if_false, Bool.true_eq, Bool.false_eq_true, reduceIte, isNon, List.all_cons, List.all_nil, List.any_cons, List.any_nil, Bool.and_true, Bool.true_and, Bool.or_false, Bool.false_or, Bool.and_false, Bool.false_and, Bool.or_true, Bool.true_or, Bool.not_true, Bool.not_false, Bool.xor_false, Bool.false_xor, Bool.true_xor, Bool.xor_true, List.isEmpty_nil, List.isEmpty_cons, clr, atI_0, atI_1, atI_2, atI_n1, asBls, asInts, dEq_int, dOk_int, dDep_int, Nat.min_self, decide_eq_true_eq, Nat.zero_le, Nat.not_lt_zero, List.cons.injEq, exists_eq_left', exists_and_left, Option.map_some, id_eq, decide_true, decide_false, Bool.not_eq_true, ne_eq, not_true_eq_false, not_false_eq_true, h3]
  exact ⟨mulS ha hb (by simp) (by simp), mulS ha hb (by simp) (by simp), mulS ha hb (by simp) (by simp), _, _, rfl, den00 a b, denS ha hb, by rw [sub_q]; exact q⟩
theorem p_times (h3 : m.fn 3 = spLow) (h : (spR2 (fun a b => a * b) fun _ _ => True).run ds M Q E) : ws m S_times E (startR N_times ds) M { nx := fun _ M' => Q .non M', rt := Q } := by
  obtain ⟨a, b, rfl, ⟨ha, hb, _⟩, q⟩ := h
  simp only [S_times, N_times, rD, ws, wx, wl, wi, opd, prt, tst, val, ownv, startR, w1, w2, wII, wint, wb, bt, opt, sq, sqL, sqi, tyOf, isTy, setp, sets, wsl, cturn, fl, cl, List.map_cons, List.map_nil, List.length_cons, List.length_nil, List.nil_append, List.cons_append, List.append_nil, List.replicate, List.getElem?_cons_zero, List.getElem?_cons_succ, List.getElem?_nil, List.set_cons_zero, List.set_cons_succ, List.set_nil, Nat.zero_add, Nat.reduceAdd, Nat.reduceSub, Nat.sub_self, Nat.reduceLT, Nat.lt_add_one, Nat.zero_lt_succ, true_and, and_true, if_true, if_false, Bool.true_eq, Bool.false_eq_true, reduceIte, isNon, List.all_cons, List.all_nil, List.any_cons, List.any_nil, Bool.and_true, Bool.true_and, Bool.or_false, Bool.false_or, Bool.and_false, Bool.false_and, Bool.or_true, Bool.true_or, Bool.not_true, Bool.not_false, Bool.xor_false, Bool.false_xor, Bool.true_xor, Bool.xor_true, List.isEmpty_nil, List.isEmpty_cons, clr, atI_0, atI_1, atI_2, atI_n1, asBls, asInts, dEq_int, dOk_int, dDep_int, Nat.min_self, decide_eq_true_eq, Nat.zero_le, Nat.not_lt_zero, List.cons.injEq, exists_eq_left', exists_and_left, Option.map_some, id_eq, decide_true, decide_false, Bool.not_eq_true, ne_eq, not_true_eq_false, not_false_eq_true, h3]
  exact ⟨mulS ha hb (by simp) (by simp), mulS ha hb (by simp) (by simp), _, _, rfl, den00 a b, denS ha hb, by rw [mul_q]; exact q⟩
theorem p_over (h3 : m.fn 3 = spLow) (h : (spR2 (fun a b => a / b) fun _ b => b.num ≠ 0).run ds M Q E) : ws m S_over E (startR N_over ds) M { nx := fun _ M' => Q .non M', rt := Q } := by
  obtain ⟨a, b, rfl, ⟨ha, hb, h0⟩, q⟩ := h
  simp only [S_over, N_over, rD, ws, wx, wl, wi, opd, prt, tst, val, ownv, startR, w1, w2, wII, wint, wb, bt, opt, sq, sqL, sqi, tyOf, isTy, setp, sets, wsl, cturn, fl, cl, List.map_cons, List.map_nil, List.length_cons, List.length_nil, List.nil_append, List.cons_append, List.append_nil, List.replicate, List.getElem?_cons_zero, List.getElem?_cons_succ, List.getElem?_nil, List.set_cons_zero, List.set_cons_succ, List.set_nil, Nat.zero_add, Nat.reduceAdd, Nat.reduceSub, Nat.sub_self, Nat.reduceLT, Nat.lt_add_one, Nat.zero_lt_succ, true_and, and_true, if_true, if_false, Bool.true_eq, Bool.false_eq_true, reduceIte, isNon, List.all_cons, List.all_nil, List.any_cons, List.any_nil, Bool.and_true, Bool.true_and, Bool.or_false, Bool.false_or, Bool.and_false, Bool.false_and, Bool.or_true, Bool.true_or, Bool.not_true, Bool.not_false, Bool.xor_false, Bool.false_xor, Bool.true_xor, Bool.xor_true, List.isEmpty_nil, List.isEmpty_cons, clr, atI_0, atI_1, atI_2, atI_n1, asBls, asInts, dEq_int, dOk_int, dDep_int, Nat.min_self, decide_eq_true_eq, Nat.zero_le, Nat.not_lt_zero, List.cons.injEq, exists_eq_left', exists_and_left, Option.map_some, id_eq, decide_true, decide_false, Bool.not_eq_true, ne_eq, not_true_eq_false, not_false_eq_true, h3]
  exact ⟨mulS ha hb (by simp) (by simp), mulS ha hb (by simp) (by simp), _, _, rfl, Int.mul_ne_zero (den0 a) h0, numS ha hb, by rw [div_q]; exact q⟩
theorem p_is_less (h : spLess.run ds M Q E) : ws m S_is_less E (startR N_is_less ds) M { nx := fun _ M' => Q .non M', rt := Q } := by
  obtain ⟨a, b, rfl, ⟨ha, hb⟩, q⟩ := h
  simp only [S_is_less, N_is_less, rD, ws, wx, wl, wi, opd, prt, tst, val, ownv, startR, w1, w2, wII, wint, wb, bt, opt, sq, sqL, sqi, tyOf, isTy, setp, sets, wsl, cturn, fl, cl, List.map_cons, List.map_nil, List.length_cons, List.length_nil, List.nil_append, List.cons_append, List.append_nil, List.replicate, List.getElem?_cons_zero, List.getElem?_cons_succ, List.getElem?_nil, List.set_cons_zero, List.set_cons_succ, List.set_nil, Nat.zero_add, Nat.reduceAdd, Nat.reduceSub, Nat.sub_self, Nat.reduceLT, Nat.lt_add_one, Nat.zero_lt_succ, true_and, and_true, if_true, if_false, Bool.true_eq, Bool.false_eq_true, reduceIte, isNon, List.all_cons, List.all_nil, List.any_cons, List.any_nil, Bool.and_true, Bool.true_and, Bool.or_false, Bool.false_or, Bool.and_false, Bool.false_and, Bool.or_true, Bool.true_or, Bool.not_true, Bool.not_false, Bool.xor_false, Bool.false_xor, Bool.true_xor, Bool.xor_true, List.isEmpty_nil, List.isEmpty_cons, clr, atI_0, atI_1, atI_2, atI_n1, asBls, asInts, dEq_int, dOk_int, dDep_int, Nat.min_self, decide_eq_true_eq, Nat.zero_le, Nat.not_lt_zero, List.cons.injEq, exists_eq_left', exists_and_left, Option.map_some, id_eq, decide_true, decide_false, Bool.not_eq_true, ne_eq, not_true_eq_false, not_false_eq_true]
  refine ⟨mulS ha hb (by simp) (by simp), mulS ha hb (by simp) (by simp), ?_⟩
  rw [show decide (a.num * (b.den : Int) < b.num * (a.den : Int)) = decide (a < b) from decide_eq_decide.mpr (Rat.lt_iff a b).symm]
  exact q
theorem p__law_plus (h3 : m.fn 27 = spLow) (h : (spR2 (fun a b => a + b) fun _ _ => True).run ds M Q E) : ws m S__law_plus E (startR N__law_plus ds) M { nx := fun _ M' => Q .non M', rt := Q } := by
  obtain ⟨a, b, rfl, ⟨ha, hb, _⟩, q⟩ := h
  simp only [S__law_plus, N__law_plus, rD, ws, wx, wl, wi, opd, prt, tst, val, ownv, startR, w1, w2, wII, wint, wb, bt, opt, sq, sqL, sqi, tyOf, isTy, setp, sets, wsl, cturn, fl, cl, List.map_cons, List.map_nil, List.length_cons, List.length_nil, List.nil_append, List.cons_append, List.append_nil, List.replicate, List.getElem?_cons_zero, List.getElem?_cons_succ, List.getElem?_nil, List.set_cons_zero, List.set_cons_succ, List.set_nil, Nat.zero_add, Nat.reduceAdd, Nat.reduceSub, Nat.sub_self, Nat.reduceLT, Nat.lt_add_one, Nat.zero_lt_succ, true_and, and_true, if_true, if_false, Bool.true_eq, Bool.false_eq_true, reduceIte, isNon, List.all_cons, List.all_nil, List.any_cons, List.any_nil, Bool.and_true, Bool.true_and, Bool.or_false, Bool.false_or, Bool.and_false, Bool.false_and, Bool.or_true, Bool.true_or, Bool.not_true, Bool.not_false, Bool.xor_false, Bool.false_xor, Bool.true_xor, Bool.xor_true, List.isEmpty_nil, List.isEmpty_cons, clr, atI_0, atI_1, atI_2, atI_n1, asBls, asInts, dEq_int, dOk_int, dDep_int, Nat.min_self, decide_eq_true_eq, Nat.zero_le, Nat.not_lt_zero, List.cons.injEq, exists_eq_left', exists_and_left, Option.map_some, id_eq, decide_true, decide_false, Bool.not_eq_true, ne_eq, not_true_eq_false, not_false_eq_true, h3]
  exact ⟨mulS ha hb (by simp) (by simp), mulS ha hb (by simp) (by simp), mulS ha hb (by simp) (by simp), _, _, rfl, den00 a b, denS ha hb, by rw [add_q]; exact q⟩
theorem p__law_minus (h3 : m.fn 27 = spLow) (h : (spR2 (fun a b => a - b) fun _ _ => True).run ds M Q E) : ws m S__law_minus E (startR N__law_minus ds) M { nx := fun _ M' => Q .non M', rt := Q } := by
  obtain ⟨a, b, rfl, ⟨ha, hb, _⟩, q⟩ := h
  simp only [S__law_minus, N__law_minus, rD, ws, wx, wl, wi, opd, prt, tst, val, ownv, startR, w1, w2, wII, wint, wb, bt, opt, sq, sqL, sqi, tyOf, isTy, setp, sets, wsl, cturn, fl, cl, List.map_cons, List.map_nil, List.length_cons, List.length_nil, List.nil_append, List.cons_append, List.append_nil, List.replicate, List.getElem?_cons_zero, List.getElem?_cons_succ, List.getElem?_nil, List.set_cons_zero, List.set_cons_succ, List.set_nil, Nat.zero_add, Nat.reduceAdd, Nat.reduceSub, Nat.sub_self, Nat.reduceLT, Nat.lt_add_one, Nat.zero_lt_succ, true_and, and_true, if_true, if_false, Bool.true_eq, Bool.false_eq_true, reduceIte, isNon, List.all_cons, List.all_nil, List.any_cons, List.any_nil, Bool.and_true, Bool.true_and, Bool.or_false, Bool.false_or, Bool.and_false, Bool.false_and, Bool.or_true, Bool.true_or, Bool.not_true, Bool.not_false, Bool.xor_false, Bool.false_xor, Bool.true_xor, Bool.xor_true, List.isEmpty_nil, List.isEmpty_cons, clr, atI_0, atI_1, atI_2, atI_n1, asBls, asInts, dEq_int, dOk_int, dDep_int, Nat.min_self, decide_eq_true_eq, Nat.zero_le, Nat.not_lt_zero, List.cons.injEq, exists_eq_left', exists_and_left, Option.map_some, id_eq, decide_true, decide_false, Bool.not_eq_true, ne_eq, not_true_eq_false, not_false_eq_true, h3]
  exact ⟨mulS ha hb (by simp) (by simp), mulS ha hb (by simp) (by simp), mulS ha hb (by simp) (by simp), _, _, rfl, den00 a b, denS ha hb, by rw [sub_q]; exact q⟩
theorem p__law_times (h3 : m.fn 27 = spLow) (h : (spR2 (fun a b => a * b) fun _ _ => True).run ds M Q E) : ws m S__law_times E (startR N__law_times ds) M { nx := fun _ M' => Q .non M', rt := Q } := by
  obtain ⟨a, b, rfl, ⟨ha, hb, _⟩, q⟩ := h
  simp only [S__law_times, N__law_times, rD, ws, wx, wl, wi, opd, prt, tst, val, ownv, startR, w1, w2, wII, wint, wb, bt, opt, sq, sqL, sqi, tyOf, isTy, setp, sets, wsl, cturn, fl, cl, List.map_cons, List.map_nil, List.length_cons, List.length_nil, List.nil_append, List.cons_append, List.append_nil, List.replicate, List.getElem?_cons_zero, List.getElem?_cons_succ, List.getElem?_nil, List.set_cons_zero, List.set_cons_succ, List.set_nil, Nat.zero_add, Nat.reduceAdd, Nat.reduceSub, Nat.sub_self, Nat.reduceLT, Nat.lt_add_one, Nat.zero_lt_succ, true_and, and_true, if_true, if_false, Bool.true_eq, Bool.false_eq_true, reduceIte, isNon, List.all_cons, List.all_nil, List.any_cons, List.any_nil, Bool.and_true, Bool.true_and, Bool.or_false, Bool.false_or, Bool.and_false, Bool.false_and, Bool.or_true, Bool.true_or, Bool.not_true, Bool.not_false, Bool.xor_false, Bool.false_xor, Bool.true_xor, Bool.xor_true, List.isEmpty_nil, List.isEmpty_cons, clr, atI_0, atI_1, atI_2, atI_n1, asBls, asInts, dEq_int, dOk_int, dDep_int, Nat.min_self, decide_eq_true_eq, Nat.zero_le, Nat.not_lt_zero, List.cons.injEq, exists_eq_left', exists_and_left, Option.map_some, id_eq, decide_true, decide_false, Bool.not_eq_true, ne_eq, not_true_eq_false, not_false_eq_true, h3]
  exact ⟨mulS ha hb (by simp) (by simp), mulS ha hb (by simp) (by simp), _, _, rfl, den00 a b, denS ha hb, by rw [mul_q]; exact q⟩
theorem p__law_over (h3 : m.fn 27 = spLow) (h : (spR2 (fun a b => a / b) fun _ b => b.num ≠ 0).run ds M Q E) : ws m S__law_over E (startR N__law_over ds) M { nx := fun _ M' => Q .non M', rt := Q } := by
  obtain ⟨a, b, rfl, ⟨ha, hb, h0⟩, q⟩ := h
  simp only [S__law_over, N__law_over, rD, ws, wx, wl, wi, opd, prt, tst, val, ownv, startR, w1, w2, wII, wint, wb, bt, opt, sq, sqL, sqi, tyOf, isTy, setp, sets, wsl, cturn, fl, cl, List.map_cons, List.map_nil, List.length_cons, List.length_nil, List.nil_append, List.cons_append, List.append_nil, List.replicate, List.getElem?_cons_zero, List.getElem?_cons_succ, List.getElem?_nil, List.set_cons_zero, List.set_cons_succ, List.set_nil, Nat.zero_add, Nat.reduceAdd, Nat.reduceSub, Nat.sub_self, Nat.reduceLT, Nat.lt_add_one, Nat.zero_lt_succ, true_and, and_true, if_true, if_false, Bool.true_eq, Bool.false_eq_true, reduceIte, isNon, List.all_cons, List.all_nil, List.any_cons, List.any_nil, Bool.and_true, Bool.true_and, Bool.or_false, Bool.false_or, Bool.and_false, Bool.false_and, Bool.or_true, Bool.true_or, Bool.not_true, Bool.not_false, Bool.xor_false, Bool.false_xor, Bool.true_xor, Bool.xor_true, List.isEmpty_nil, List.isEmpty_cons, clr, atI_0, atI_1, atI_2, atI_n1, asBls, asInts, dEq_int, dOk_int, dDep_int, Nat.min_self, decide_eq_true_eq, Nat.zero_le, Nat.not_lt_zero, List.cons.injEq, exists_eq_left', exists_and_left, Option.map_some, id_eq, decide_true, decide_false, Bool.not_eq_true, ne_eq, not_true_eq_false, not_false_eq_true, h3]
  exact ⟨mulS ha hb (by simp) (by simp), mulS ha hb (by simp) (by simp), _, _, rfl, Int.mul_ne_zero (den0 a) h0, numS ha hb, by rw [div_q]; exact q⟩
theorem p__law_less (h : spLess.run ds M Q E) : ws m S__law_less E (startR N__law_less ds) M { nx := fun _ M' => Q .non M', rt := Q } := by
  obtain ⟨a, b, rfl, ⟨ha, hb⟩, q⟩ := h
  simp only [S__law_less, N__law_less, rD, ws, wx, wl, wi, opd, prt, tst, val, ownv, startR, w1, w2, wII, wint, wb, bt, opt, sq, sqL, sqi, tyOf, isTy, setp, sets, wsl, cturn, fl, cl, List.map_cons, List.map_nil, List.length_cons, List.length_nil, List.nil_append, List.cons_append, List.append_nil, List.replicate, List.getElem?_cons_zero, List.getElem?_cons_succ, List.getElem?_nil, List.set_cons_zero, List.set_cons_succ, List.set_nil, Nat.zero_add, Nat.reduceAdd, Nat.reduceSub, Nat.sub_self, Nat.reduceLT, Nat.lt_add_one, Nat.zero_lt_succ, true_and, and_true, if_true, if_false, Bool.true_eq, Bool.false_eq_true, reduceIte, isNon, List.all_cons, List.all_nil, List.any_cons, List.any_nil, Bool.and_true, Bool.true_and, Bool.or_false, Bool.false_or, Bool.and_false, Bool.false_and, Bool.or_true, Bool.true_or, Bool.not_true, Bool.not_false, Bool.xor_false, Bool.false_xor, Bool.true_xor, Bool.xor_true, List.isEmpty_nil, List.isEmpty_cons, clr, atI_0, atI_1, atI_2, atI_n1, asBls, asInts, dEq_int, dOk_int, dDep_int, Nat.min_self, decide_eq_true_eq, Nat.zero_le, Nat.not_lt_zero, List.cons.injEq, exists_eq_left', exists_and_left, Option.map_some, id_eq, decide_true, decide_false, Bool.not_eq_true, ne_eq, not_true_eq_false, not_false_eq_true]
  refine ⟨mulS ha hb (by simp) (by simp), mulS ha hb (by simp) (by simp), ?_⟩
  rw [show decide (a.num * (b.den : Int) < b.num * (a.den : Int)) = decide (a < b) from decide_eq_decide.mpr (Rat.lt_iff a b).symm]
  exact q
theorem p__law_q (h : spLow.run ds M Q E) : ws m S__law_q E (startR N__law_q ds) M { nx := fun _ M' => Q .non M', rt := Q } := by
  obtain ⟨n, d, rfl, hd, hs, q⟩ := h
  simp only [S__law_q, N__law_q, ws, wx, wl, wi, opd, prt, tst, val, ownv, startR, w1, w2, wII, wint, wb, bt, opt, sq, sqL, sqi, tyOf, isTy, setp, sets, wsl, cturn, fl, cl, List.map_cons, List.map_nil, List.length_cons, List.length_nil, List.nil_append, List.cons_append, List.append_nil, List.replicate, List.getElem?_cons_zero, List.getElem?_cons_succ, List.getElem?_nil, List.set_cons_zero, List.set_cons_succ, List.set_nil, Nat.zero_add, Nat.reduceAdd, Nat.reduceSub, Nat.sub_self, Nat.reduceLT, Nat.lt_add_one, Nat.zero_lt_succ, true_and, and_true, if_true, if_false, Bool.true_eq, Bool.false_eq_true, reduceIte, isNon, List.all_cons, List.all_nil, List.any_cons, List.any_nil, Bool.and_true, Bool.true_and, Bool.or_false, Bool.false_or, Bool.and_false, Bool.false_and, Bool.or_true, Bool.true_or, Bool.not_true, Bool.not_false, Bool.xor_false, Bool.false_xor, Bool.true_xor, Bool.xor_true, List.isEmpty_nil, List.isEmpty_cons, clr, atI_0, atI_1, atI_2, atI_n1, asBls, asInts, dEq_int, dOk_int, dDep_int, Nat.min_self, decide_eq_true_eq, Nat.zero_le, Nat.not_lt_zero, List.cons.injEq, exists_eq_left', exists_and_left, Option.map_some, id_eq, decide_true, decide_false, Bool.not_eq_true, ne_eq, not_true_eq_false, not_false_eq_true]
  refine ⟨fun k r M' => M' = M ∧ ∃ a b : Nat, r = [.val (.int n), .val (.int d), .val (.int (a : Int)), .val (.int (b : Int))] ∧ b = k ∧ Nat.gcd a b = Nat.gcd n.natAbs d.natAbs, ⟨d.natAbs, rfl, n.natAbs, d.natAbs, rfl, rfl, rfl⟩, ?_⟩
  rintro k r M' ⟨rfl, a, b, rfl, rfl, hg⟩
  simp only [B__law_q_1, ws, wx, wl, wi, opd, prt, tst, val, ownv, startR, w1, w2, wII, wint, wb, bt, opt, sq, sqL, sqi, tyOf, isTy, setp, sets, wsl, cturn, fl, cl, List.map_cons, List.map_nil, List.length_cons, List.length_nil, List.nil_append, List.cons_append, List.append_nil, List.replicate, List.getElem?_cons_zero, List.getElem?_cons_succ, List.getElem?_nil, List.set_cons_zero, List.set_cons_succ, List.set_nil, Nat.zero_add, Nat.reduceAdd, Nat.reduceSub, Nat.sub_self, Nat.reduceLT, Nat.lt_add_one, Nat.zero_lt_succ, true_and, and_true, if_true, if_false, Bool.true_eq, Bool.false_eq_true, reduceIte, isNon, List.all_cons, List.all_nil, List.any_cons, List.any_nil, Bool.and_true, Bool.true_and, Bool.or_false, Bool.false_or, Bool.and_false, Bool.false_and, Bool.or_true, Bool.true_or, Bool.not_true, Bool.not_false, Bool.xor_false, Bool.false_xor, Bool.true_xor, Bool.xor_true, List.isEmpty_nil, List.isEmpty_cons, clr, atI_0, atI_1, atI_2, atI_n1, asBls, asInts, dEq_int, dOk_int, dDep_int, Nat.min_self, decide_eq_true_eq, Nat.zero_le, Nat.not_lt_zero, List.cons.injEq, exists_eq_left', exists_and_left, Option.map_some, id_eq, decide_true, decide_false, Bool.not_eq_true, ne_eq, not_true_eq_false, not_false_eq_true]
  by_cases h0 : (0 : Int) < (b : Int)
  · simp only [if_pos h0]
    refine ⟨by omega, a % b, Nat.mod_lt _ (by omega), b, a % b, ⟨rfl, ?_⟩, rfl, ?_⟩
    · rw [Int.fmod_eq_emod_of_nonneg _ (by omega)]; rfl
    · rw [← hg, Nat.gcd_comm a b, Nat.gcd_rec b a, Nat.gcd_comm]
  · simp only [if_neg h0]
    have hb : b = 0 := by omega
    subst hb
    rw [Nat.gcd_zero_right] at hg
    subst hg
    obtain ⟨e1, e2⟩ := low_eq n d hd
    have g0 : 0 < Nat.gcd n.natAbs d.natAbs := Nat.gcd_pos_of_pos_right _ (by omega)
    have gl : (Nat.gcd n.natAbs d.natAbs).log2 < 9000 := by
      have : Nat.gcd n.natAbs d.natAbs ≤ d.natAbs := Nat.gcd_le_right _ (by omega)
      exact Nat.lt_of_lt_of_le (log_lt (Nat.lt_of_le_of_lt this hs) (by decide)) (by decide)
    by_cases h : 0 < d
    · rw [if_pos h] at e1 e2
      simp only [if_pos h]
      refine ⟨⟨by omega, gl⟩, ⟨by omega, gl⟩, by decide, ?_⟩
      rw [e1, e2]; exact q
    · rw [if_neg h] at e1 e2
      simp only [if_neg h]
      refine ⟨⟨by omega, gl⟩, ⟨by omega, gl⟩, by decide, ?_⟩
      have f : ∀ x : Int, (-x).fdiv ((Nat.gcd n.natAbs d.natAbs : Nat) : Int) = x.fdiv (-((Nat.gcd n.natAbs d.natAbs : Nat) : Int)) := fun x => by
        have := Int.neg_fdiv_neg x (-((Nat.gcd n.natAbs d.natAbs : Nat) : Int))
        rw [Int.neg_neg] at this
        exact this
      rw [f, f, e1, e2]; exact q
end
/-! ### sums -/
/-- q times N is whole, and not large -/
def Fr (N Z : Nat) (q : Rat) : Prop := ∃ z : Int, z.natAbs ≤ Z ∧ q * (N : Rat) = (z : Rat)
theorem Fr.sz {N Z k : Nat} {q : Rat} (h : Fr N Z q) (h0 : 0 < N) (hN : N < 2 ^ k) (hZ : Z < 2 ^ k) : Sz k q := by
  obtain ⟨z, h1, h2⟩ := h
  have hN0 : (N : Rat) ≠ 0 := by
    intro e
    have : N = 0 := by exact_mod_cast e
    omega
  have e : q = Rat.divInt z N := by
    have e1 : q = (z : Rat) / (N : Rat) := by
      rw [← h2]
      grind
    rw [e1, Rat.divInt_eq_div]
    rfl
  have hni : ((N : Nat) : Int) ≠ 0 := by omega
  have g0 : 0 < ((N : Nat) : Int).gcd z := Int.gcd_pos_of_ne_zero_left _ hni
  subst e
  refine ⟨?_, ?_⟩
  · rw [Rat.num_divInt, Int.sign_eq_one_of_pos (by omega), Int.one_mul]
    refine Nat.lt_of_le_of_lt (Nat.le_trans ?_ h1) hZ
    exact Int.natAbs_ediv_le_natAbs _ _
  · rw [Rat.den_divInt, if_neg hni]
    exact Nat.lt_of_le_of_lt (Nat.div_le_self _ _) (by simpa using hN)
theorem Fr.mono {N Z Z' : Nat} {q : Rat} (h : Fr N Z q) (hz : Z ≤ Z') : Fr N Z' q := by
  obtain ⟨z, h1, h2⟩ := h
  exact ⟨z, by omega, h2⟩
theorem Fr.add {N Z Z' : Nat} {p q : Rat} (h : Fr N Z p) (h' : Fr N Z' q) : Fr N (Z + Z') (p + q) := by
  obtain ⟨z, h1, h2⟩ := h
  obtain ⟨y, h3, h4⟩ := h'
  refine ⟨z + y, by omega, ?_⟩
  rw [Rat.intCast_add, ← h2, ← h4]
  grind
theorem Fr.sub {N Z Z' : Nat} {p q : Rat} (h : Fr N Z p) (h' : Fr N Z' q) : Fr N (Z + Z') (p - q) := by
  obtain ⟨z, h1, h2⟩ := h
  obtain ⟨y, h3, h4⟩ := h'
  refine ⟨z - y, by omega, ?_⟩
  rw [Rat.intCast_sub, ← h2, ← h4]
  grind
theorem Fr.mul {N N' Z Z' : Nat} {p q : Rat} (h : Fr N Z p) (h' : Fr N' Z' q) : Fr (N * N') (Z * Z') (p * q) := by
  obtain ⟨z, h1, h2⟩ := h
  obtain ⟨y, h3, h4⟩ := h'
  refine ⟨z * y, by rw [Int.natAbs_mul]; exact Nat.mul_le_mul h1 h3, ?_⟩
  rw [Rat.intCast_mul, ← h2, ← h4, Rat.natCast_mul]
  grind
theorem Fr.zero {N Z : Nat} : Fr N Z 0 := ⟨0, by simp, by simp⟩
def spSum : PV.Spec where
  run ds M Q E := ∃ (qs : List Rat) (N Z : Nat), ds = [.lst (qs.map rD)] ∧ (0 < N ∧ N < 2 ^ 4000 ∧ (qs.length + 1) * (Z + 1) < 2 ^ 4000 ∧ ∀ q ∈ qs, Fr N Z q) ∧ Q (rD qs.sum) M
  mono := fun ⟨a, b, c, h1, h2, h3⟩ q _ => ⟨a, b, c, h1, h2, q _ _ h3⟩
theorem sum_for {m : Sm} {j : Nat} (hj : m.fn j = spR2 (fun a b => a + b) fun _ _ => True) {E : Ex} {M : Ms} {N Z : Nat} (h0 : 0 < N) (hN : N < 2 ^ 4000) {x : Sl} {k : Kn} : ∀ {qs : List Rat} {acc : Rat} {A : Nat} {e : Sl}, Fr N A acc → A + qs.length * Z < 2 ^ 4000 → (∀ q ∈ qs, Fr N Z q) → Z < 2 ^ 4000 → (∀ e, k.nx [x, .val (rD (acc + qs.sum)), e] M) →
    fl (fun d r M k' => bt M (.nm 2) d r fun r' => ws m (.asg (.nm 1) (.call j (.cons (.v 1) (.cons (.v 2) .nil)))) E r' M k') (qs.map rD) [x, .val (rD acc), e] M k
  | [], acc, A, e, _, _, _, _, hk => by
    have := hk e
    simp only [List.sum_nil, Rat.add_zero] at this
    exact this
  | q :: qs, acc, A, e, ha, hl, hq, hZ, hk => by
    have hq0 := hq q (by simp)
    have hA : A < 2 ^ 4000 := by omega
    have run : (m.fn j).run [rD acc, rD q] M (fun d M' => 1 < 3 ∧ fl (fun d r M k' => bt M (.nm 2) d r fun r' => ws m (.asg (.nm 1) (.call j (.cons (.v 1) (.cons (.v 2) .nil)))) E r' M k') (qs.map rD) [x, .val d, .val (rD q)] M' k) E := by
      rw [hj]
      refine ⟨acc, q, rfl, ⟨ha.sz h0 hN hA, hq0.sz h0 hN hZ, trivial⟩, by decide, ?_⟩
      refine sum_for hj h0 hN (ha.add hq0) ?_ (fun z hz => hq z (by simp [hz])) hZ fun e => ?_
      · simp only [List.length_cons] at hl
        rw [Nat.add_mul] at hl
        omega
      · have := hk e
        rw [List.sum_cons, ← Rat.add_assoc] at this
        exact this
    exact ⟨(by simp : 2 < 3), run⟩
section
variable {m : Sm} {ds : List D} {M : Ms} {Q : D → Ms → Prop} {E : Ex}
theorem rD_zero : rD 0 = .tup [.int 0, .int 1] := rfl
theorem p_total (h4 : m.fn 4 = spR2 (fun a b => a + b) fun _ _ => True) (g0 : m.glo 0 = rD 0) (h : spSum.run ds M Q E) : ws m S_total E (startR N_total ds) M { nx := fun _ M' => Q .non M', rt := Q } := by
  obtain ⟨qs, N, Z, rfl, ⟨h0, hN, hl, hq⟩, q⟩ := h
  have e : (qs.length + 1) * (Z + 1) = qs.length * Z + qs.length + Z + 1 := by
    rw [Nat.add_mul, Nat.mul_add]; omega
  have hz : Z < 2 ^ 4000 := by omega
  have key := sum_for (k := { nx := fun r M' => ws m (.ret (.v 1)) E r M' { nx := fun _ M' => Q .non M', rt := Q }, rt := Q }) (x := .val (.lst (qs.map rD))) (e := .un) (E := E) (M := M) (A := 0) h4 h0 hN Fr.zero (by omega) hq hz (fun e => by
    rw [Rat.zero_add]; exact q)
  simp only [S_total, N_total, ws, wx, wl, wi, opd, prt, tst, val, ownv, startR, w1, w2, wII, wint, wb, bt, opt, sq, sqL, sqi, tyOf, isTy, setp, sets, wsl, cturn, fl, cl, List.map_cons, List.map_nil, List.length_cons, List.length_nil, List.nil_append, List.cons_append, List.append_nil, List.replicate, List.getElem?_cons_zero, List.getElem?_cons_succ, List.getElem?_nil, List.set_cons_zero, List.set_cons_succ, List.set_nil, Nat.zero_add, Nat.reduceAdd, Nat.reduceSub, Nat.sub_self, Nat.reduceLT, Nat.lt_add_one, Nat.zero_lt_succ, true_and, and_true, if_true, if_false, Bool.true_eq, Bool.false_eq_true, reduceIte, isNon, List.all_cons, List.all_nil, List.any_cons, List.any_nil, Bool.and_true, Bool.true_and, Bool.or_false, Bool.false_or, Bool.and_false, Bool.false_and, Bool.or_true, Bool.true_or, Bool.not_true, Bool.not_false, Bool.xor_false, Bool.false_xor, Bool.true_xor, Bool.xor_true, List.isEmpty_nil, List.isEmpty_cons, clr, atI_0, atI_1, atI_2, atI_n1, asBls, asInts, dEq_int, dOk_int, dDep_int, Nat.min_self, decide_eq_true_eq, Nat.zero_le, Nat.not_lt_zero, List.cons.injEq, exists_eq_left', exists_and_left, Option.map_some, id_eq, decide_true, decide_false, Bool.not_eq_true, ne_eq, not_true_eq_false, not_false_eq_true, g0]
  exact key
theorem p__law_sum (h4 : m.fn 28 = spR2 (fun a b => a + b) fun _ _ => True) (h : spSum.run ds M Q E) : ws m S__law_sum E (startR N__law_sum ds) M { nx := fun _ M' => Q .non M', rt := Q } := by
  obtain ⟨qs, N, Z, rfl, ⟨h0, hN, hl, hq⟩, q⟩ := h
  have e : (qs.length + 1) * (Z + 1) = qs.length * Z + qs.length + Z + 1 := by
    rw [Nat.add_mul, Nat.mul_add]; omega
  have hz : Z < 2 ^ 4000 := by omega
  have key := sum_for (k := { nx := fun r M' => ws m (.ret (.v 1)) E r M' { nx := fun _ M' => Q .non M', rt := Q }, rt := Q }) (x := .val (.lst (qs.map rD))) (e := .un) (E := E) (M := M) (A := 0) h4 h0 hN Fr.zero (by omega) hq hz (fun e => by
    rw [Rat.zero_add]; exact q)
  simp only [S__law_sum, N__law_sum, ws, wx, wl, wi, opd, prt, tst, val, ownv, startR, w1, w2, wII, wint, wb, bt, opt, sq, sqL, sqi, tyOf, isTy, setp, sets, wsl, cturn, fl, cl, List.map_cons, List.map_nil, List.length_cons, List.length_nil, List.nil_append, List.cons_append, List.append_nil, List.replicate, List.getElem?_cons_zero, List.getElem?_cons_succ, List.getElem?_nil, List.set_cons_zero, List.set_cons_succ, List.set_nil, Nat.zero_add, Nat.reduceAdd, Nat.reduceSub, Nat.sub_self, Nat.reduceLT, Nat.lt_add_one, Nat.zero_lt_succ, true_and, and_true, if_true, if_false, Bool.true_eq, Bool.false_eq_true, reduceIte, isNon, List.all_cons, List.all_nil, List.any_cons, List.any_nil, Bool.and_true, Bool.true_and, Bool.or_false, Bool.false_or, Bool.and_false, Bool.false_and, Bool.or_true, Bool.true_or, Bool.not_true, Bool.not_false, Bool.xor_false, Bool.false_xor, Bool.true_xor, Bool.xor_true, List.isEmpty_nil, List.isEmpty_cons, clr, atI_0, atI_1, atI_2, atI_n1, asBls, asInts, dEq_int, dOk_int, dDep_int, Nat.min_self, decide_eq_true_eq, Nat.zero_le, Nat.not_lt_zero, List.cons.injEq, exists_eq_left', exists_and_left, Option.map_some, id_eq, decide_true, decide_false, Bool.not_eq_true, ne_eq, not_true_eq_false, not_false_eq_true, ← rD_zero]
  exact ⟨by decide, key⟩
end
end K75

set_option Elab.async false
set_option linter.all false
set_option maxRecDepth 100000
set_option maxHeartbeats 4000000
set_option exponentiation.threshold 100000
/-! plain laws: numbers with chances -/
namespace K75
open PySem PySem.Spec PyProof.Rows L2 PV

theorem asBls_map {α : Type} (f : α → Bool) (g : α → D) (hg : ∀ x, g x = .bl (f x)) : ∀ xs : List α, asBls (xs.map g) = some (xs.map f)
  | [] => rfl
  | x :: xs => by
    rw [List.map_cons, hg x]
    show (asBls (xs.map g)).map (f x :: ·) = _
    rw [asBls_map f g hg xs]; rfl
theorem fm_some {α β : Type} (f : α → β) : ∀ xs : List α, xs.filterMap (fun x => some (f x)) = xs.map f
  | [] => rfl
  | x :: xs => congrArg (f x :: ·) (fm_some f xs)
mutual
/-- data of small ints -/
def sm : D → Bool
  | .int i => decide (i.natAbs < 2 ^ 400)
  | .tup xs => sms xs
  | .lst xs => sms xs
  | _ => true
def sms : List D → Bool
  | [] => true
  | x :: xs => sm x && sms xs
end
theorem sms_mem : ∀ {xs : List D} {x : D}, sms xs = true → x ∈ xs → sm x = true
  | [], _, _, h => by simp at h
  | y :: ys, x, h, hm => by
    have h : (sm y && sms ys) = true := h
    rw [Bool.and_eq_true] at h
    rcases List.mem_cons.mp hm with rfl | hm
    · exact h.1
    · exact sms_mem h.2 hm
theorem isRat_rD (q : Rat) : isRat (rD q) = true := rat_iff.mpr ⟨q.num, q.den, rfl, by have := q.den_nz; omega, by have := q.reduced; simpa [Nat.Coprime] using this⟩
theorem rat_rD {d : D} (h : isRat d = true) : ∃ q, d = rD q := by
  obtain ⟨n, e, rfl, h1, h2⟩ := rat_iff.mp h
  refine ⟨⟨n, e.natAbs, by omega, h2⟩, ?_⟩
  unfold rD
  have : ((e.natAbs : Nat) : Int) = e := by omega
  simp only [this]
theorem sm_rD {q : Rat} (h : sm (rD q) = true) : Sz 400 q := by
  have h : (decide (q.num.natAbs < 2 ^ 400) && (decide ((q.den : Int).natAbs < 2 ^ 400) && true)) = true := h
  rw [Bool.and_true, Bool.and_eq_true, decide_eq_true_eq, decide_eq_true_eq] at h
  exact ⟨h.1, by simpa using h.2⟩
theorem Sz.mono {k l : Nat} {q : Rat} (h : Sz k q) (hl : k ≤ l) : Sz l q :=
  ⟨Nat.lt_of_lt_of_le h.1 (Nat.pow_le_pow_right (by decide) hl), Nat.lt_of_lt_of_le h.2 (Nat.pow_le_pow_right (by decide) hl)⟩
theorem num_pos {q : Rat} : 0 < q.num ↔ 0 < q := by
  rw [Rat.lt_iff]
  simp
theorem num_nonneg {q : Rat} : 0 ≤ q.num ↔ 0 ≤ q := by
  rw [Rat.le_iff]
  simp
theorem isCh_rD {q : Rat} : isCh (rD q) = (decide (0 ≤ q) && decide (q ≤ 1)) := by
  have : isCh (rD q) = (isRat (rD q) && (decide (0 ≤ q.num) && decide (q.num ≤ q.den))) := rfl
  rw [this, isRat_rD, Bool.true_and]
  congr 1
  · exact decide_eq_decide.mpr num_nonneg
  · refine decide_eq_decide.mpr ?_
    rw [Rat.le_iff]
    simp
abbrev pD (p : Rat × Rat) : D := .tup [rD p.1, rD p.2]
abbrev numD (l : List (Rat × Rat)) : D := .tup (l.map pD)
def rising : List Rat → Prop
  | a :: b :: l => a < b ∧ rising (b :: l)
  | _ => True
structure VN (l : List (Rat × Rat)) : Prop where
  len1 : 1 ≤ l.length
  len8 : l.length ≤ 8
  pos : ∀ p ∈ l, 0 < p.2 ∧ p.2 ≤ 1
  ris : rising (l.map (·.1))
  one : (l.map (·.2)).sum = 1
def isNum (d : D) : Prop := ∃ l, d = numD l ∧ VN l
/-- a common denominator -/
theorem prod_fr : ∀ (qs : List Rat), (∀ q ∈ qs, q.den < 2 ^ 400 ∧ 0 ≤ q ∧ q ≤ 1) → ∃ N : Nat, 0 < N ∧ N ≤ 2 ^ (400 * qs.length) ∧ ∀ q ∈ qs, Fr N N q
  | [], _ => ⟨1, by decide, by simp, fun _ h => by simp at h⟩
  | q :: qs, h => by
    obtain ⟨N, h1, h2, h3⟩ := prod_fr qs fun q hq => h q (by simp [hq])
    obtain ⟨d1, d2, d3⟩ := h q (by simp)
    have dp : 0 < q.den := Nat.pos_of_ne_zero q.den_nz
    refine ⟨q.den * N, Nat.mul_pos dp h1, ?_, fun p hp => ?_⟩
    · rw [List.length_cons, Nat.mul_add, Nat.mul_one, Nat.add_comm, Nat.pow_add]
      exact Nat.mul_le_mul (Nat.le_of_lt d1) h2
    · rcases List.mem_cons.mp hp with rfl | hp
      · refine ⟨p.num * N, ?_, ?_⟩
        · rw [Int.natAbs_mul, Int.natAbs_natCast]
          refine Nat.mul_le_mul_right _ ?_
          have h4 := num_nonneg.mpr d2
          have h5 : p.num ≤ p.den := by
            have := (Rat.le_iff p 1).mp d3
            simpa using this
          omega
        · have e1 : (p.num : Rat) / (p.den : Rat) = p := by
            have h := Rat.num_divInt_den p
            rw [Rat.divInt_eq_div] at h
            exact h
          have e2 : (p.den : Rat) ≠ 0 := by
            intro e
            have : p.den = 0 := by exact_mod_cast e
            omega
          have e3 : p * (p.den : Rat) = (p.num : Rat) := by
            have : (p.num : Rat) / (p.den : Rat) * (p.den : Rat) = p.num := by grind
            rw [e1] at this; exact this
          rw [Rat.natCast_mul, Rat.intCast_mul, ← Rat.mul_assoc, e3]
          rfl
      · obtain ⟨z, z1, z2⟩ := h3 p hp
        refine ⟨q.den * z, ?_, ?_⟩
        · rw [Int.natAbs_mul, Int.natAbs_natCast]
          exact Nat.mul_le_mul_left _ z1
        · rw [Rat.natCast_mul, Rat.intCast_mul, ← z2]
          have : (((q.den : Nat) : Int) : Rat) = ((q.den : Nat) : Rat) := rfl
          rw [this]
          grind
end K75

set_option Elab.async false
set_option linter.all false
set_option maxRecDepth 100000
set_option maxHeartbeats 4000000
set_option exponentiation.threshold 100000
/-! plain laws: are_numbers -/
namespace K75
open PySem PySem.Spec PyProof.Rows L2 PV

def spNumB : PV.Spec where
  run ds M Q E := ∃ d, ds = [d] ∧ (pl d = true ∧ sm d = true) ∧ ∀ b : Bool, (b = true ↔ isNum d) → Q (.bl b) M
  mono := fun ⟨d, h1, h2, h3⟩ q _ => ⟨d, h1, h2, fun b hb => q _ _ (h3 b hb)⟩
def pairOk : D → Bool
  | .tup [_, _] => true
  | _ => false
theorem pairOk_iff {d : D} : pairOk d = true ↔ ∃ a b, d = .tup [a, b] := by
  constructor
  · intro h
    unfold pairOk at h
    split at h
    · exact ⟨_, _, rfl⟩
    · cases h
  · rintro ⟨a, b, rfl⟩; rfl
def posN : D → Bool
  | .tup [.int n, _] => decide (0 < n)
  | _ => false
def cellOk : D → Bool
  | .tup [a, b] => isRat a && (isCh b && posN b)
  | _ => false
theorem cellOk_iff {d : D} : cellOk d = true ↔ ∃ p : Rat × Rat, d = pD p ∧ 0 < p.2 ∧ p.2 ≤ 1 := by
  constructor
  · intro h
    unfold cellOk at h
    split at h
    · rename_i a b
      rw [Bool.and_eq_true, Bool.and_eq_true] at h
      obtain ⟨h1, h2, h3⟩ := h
      obtain ⟨q, rfl⟩ := rat_rD h1
      have h4 : isRat b = true := by
        unfold isCh at h2
        rw [Bool.and_eq_true] at h2
        exact h2.1
      obtain ⟨p, rfl⟩ := rat_rD h4
      rw [isCh_rD, Bool.and_eq_true, decide_eq_true_eq, decide_eq_true_eq] at h2
      have h3 : decide (0 < p.num) = true := h3
      exact ⟨(q, p), rfl, num_pos.mp (of_decide_eq_true h3), h2.2⟩
    · cases h
  · rintro ⟨⟨q, p⟩, rfl, h1, h2⟩
    show (isRat (rD q) && (isCh (rD p) && decide (0 < p.num))) = true
    rw [isRat_rD, isCh_rD]
    have : 0 ≤ p := by grind
    simp [this, h2, num_pos, h1]
theorem cells_map : ∀ {xs : List D}, (∀ x ∈ xs, cellOk x = true) → ∃ l : List (Rat × Rat), xs = l.map pD ∧ ∀ p ∈ l, 0 < p.2 ∧ p.2 ≤ 1
  | [], _ => ⟨[], rfl, fun _ h => by simp at h⟩
  | x :: xs, h => by
    obtain ⟨p, rfl, hp⟩ := cellOk_iff.mp (h x (by simp))
    obtain ⟨l, rfl, hl⟩ := cells_map (xs := xs) fun y hy => h y (by simp [hy])
    exact ⟨p :: l, rfl, fun q hq => by
      rcases List.mem_cons.mp hq with rfl | hq
      · exact hp
      · exact hl q hq⟩
/-- neighbours -/
def risB : List Rat → List Bool
  | a :: b :: l => decide (a < b) :: risB (b :: l)
  | _ => []
theorem risB_ok : ∀ {l : List Rat}, (risB l).all id = true ↔ rising l
  | [] => by simp [risB, rising]
  | [a] => by simp [risB, rising]
  | a :: b :: l => by
    show ((decide (a < b) :: risB (b :: l)).all id) = true ↔ (a < b ∧ rising (b :: l))
    rw [List.all_cons, Bool.and_eq_true, risB_ok]
    simp
theorem pD_inj {p q : Rat × Rat} (h : pD p = pD q) : p = q := by
  injection h with h
  injection h with h1 h2
  injection h2 with h2 _
  exact Prod.ext (rD_inj.mp h1) (rD_inj.mp h2)
theorem mapD_inj : ∀ {l l' : List (Rat × Rat)}, l.map pD = l'.map pD → l = l'
  | [], [], _ => rfl
  | [], _ :: _, h => by simp at h
  | _ :: _, [], h => by simp at h
  | p :: l, q :: l', h => by
    rw [List.map_cons, List.map_cons] at h
    injection h with h1 h2
    rw [pD_inj h1, mapD_inj h2]
theorem numD_inj {l l' : List (Rat × Rat)} (h : numD l = numD l') : l = l' := by
  injection h with h
  exact mapD_inj h
theorem dEq_rD {a b : Rat} : dEq (rD a) (rD b) = decide (a = b) := by
  show ((a.num == b.num) && (((a.den : Int) == (b.den : Int)) && true)) = _
  rw [Bool.and_true, Bool.eq_iff_iff, Bool.and_eq_true, beq_iff_eq, beq_iff_eq, decide_eq_true_eq]
  constructor
  · rintro ⟨h1, h2⟩
    exact Rat.ext h1 (by omega)
  · rintro rfl; exact ⟨rfl, rfl⟩
theorem dDep_rD {q : Rat} : dDep (rD q) = 1 := rfl
theorem cut_from {ds : List D} {k : Nat} : cut ds (some (k : Int)) none = ds.drop k := by
  unfold cut HT.sIx
  have h0 : ¬ ((k : Int) < 0) := by omega
  simp only [if_neg h0, Int.toNat_natCast]
  by_cases h : k ≤ ds.length
  · rw [Nat.min_eq_left h, List.take_of_length_le (by simp)]
  · rw [Nat.min_eq_right (by omega), List.drop_of_length_le (by omega), List.drop_of_length_le (by omega)]
    simp
theorem cut_1 {ds : List D} : cut ds (some 1) none = ds.drop 1 := cut_from (k := 1)
theorem zip_ris : ∀ (l : List (Rat × Rat)), zipD (l.map pD) ((l.map pD).drop 1) = (l.zip (l.drop 1)).map fun p => .tup [pD p.1, pD p.2]
  | [] => rfl
  | [a] => rfl
  | a :: b :: l => by
    have := zip_ris (b :: l)
    simp only [List.map_cons, List.drop_succ_cons, List.drop_zero] at this ⊢
    show D.tup [pD a, pD b] :: zipD (pD b :: l.map pD) (l.map pD) = _
    rw [this]
    rfl
theorem risB_zip : ∀ (l : List (Rat × Rat)), (l.zip (l.drop 1)).map (fun p => decide (p.1.1 < p.2.1)) = risB (l.map (·.1))
  | [] => rfl
  | [a] => rfl
  | a :: b :: l => by
    have := risB_zip (b :: l)
    simp only [List.map_cons, List.drop_succ_cons, List.drop_zero, List.zip_cons_cons, risB] at this ⊢
    rw [this]
section
variable {m : Sm} {ds : List D} {M : Ms} {Q : D → Ms → Prop} {E : Ex}
theorem p_are_numbers (h1 : m.fn 1 = spB isRat) (h2 : m.fn 2 = spB isCh) (h8 : m.fn 8 = spLess) (h9 : m.fn 9 = spSum) (g1 : m.glo 1 = rD 1) (g2 : m.glo 2 = .int 8) (h : spNumB.run ds M Q E) : ws m S_are_numbers E (startR N_are_numbers ds) M { nx := fun _ M' => Q .non M', rt := Q } := by
  obtain ⟨d, rfl, ⟨hp, hs⟩, q⟩ := h
  have k1 : isKn m d [.tup] = true := kn_pl hp rfl
  by_cases ht : ∃ xs, d = .tup xs
  · obtain ⟨xs, rfl⟩ := ht
    obtain ⟨hl, hp⟩ := pl_tup.mp hp
    simp only [S_are_numbers, N_are_numbers, ws, wx, wl, wi, opd, prt, tst, val, ownv, startR, w1, w2, wII, wint, wb, bt, opt, sq, sqL, sqi, tyOf, isTy, setp, sets, wsl, cturn, fl, cl, List.map_cons, List.map_nil, List.length_cons, List.length_nil, List.nil_append, List.cons_append, List.append_nil, List.replicate, List.getElem?_cons_zero, List.getElem?_cons_succ, List.getElem?_nil, List.set_cons_zero, List.set_cons_succ, List.set_nil, Nat.zero_add, Nat.reduceAdd, Nat.reduceSub, Nat.sub_self, Nat.reduceLT, Nat.lt_add_one, Nat.zero_lt_succ, true_and, and_true, if_true, if_false, Bool.true_eq, Bool.false_eq_true, reduceIte, isNon, List.all_cons, List.all_nil, List.any_cons, List.any_nil, Bool.and_true, Bool.true_and, Bool.or_false, Bool.false_or, Bool.and_false, Bool.false_and, Bool.or_true, Bool.true_or, Bool.not_true, Bool.not_false, Bool.xor_false, Bool.false_xor, Bool.true_xor, Bool.xor_true, List.isEmpty_nil, List.isEmpty_cons, clr, atI_0, atI_1, atI_2, atI_n1, asBls, asInts, dEq_int, dOk_int, dDep_int, Nat.min_self, decide_eq_true_eq, Nat.zero_le, Nat.not_lt_zero, List.cons.injEq, exists_eq_left', exists_and_left, Option.map_some, id_eq, decide_true, decide_false, Bool.not_eq_true, ne_eq, not_true_eq_false, not_false_eq_true, k1, g2]
    by_cases c1 : 1 ≤ (xs.length : Int)
    · by_cases c2 : (xs.length : Int) ≤ 8
      · simp only [if_pos c1, c2, ws, wx, wl, wi, opd, prt, tst, val, ownv, startR, w1, w2, wII, wint, wb, bt, opt, sq, sqL, sqi, tyOf, isTy, setp, sets, wsl, cturn, fl, cl, List.map_cons, List.map_nil, List.length_cons, List.length_nil, List.nil_append, List.cons_append, List.append_nil, List.replicate, List.getElem?_cons_zero, List.getElem?_cons_succ, List.getElem?_nil, List.set_cons_zero, List.set_cons_succ, List.set_nil, Nat.zero_add, Nat.reduceAdd, Nat.reduceSub, Nat.sub_self, Nat.reduceLT, Nat.lt_add_one, Nat.zero_lt_succ, true_and, and_true, if_true, if_false, Bool.true_eq, Bool.false_eq_true, reduceIte, isNon, List.all_cons, List.all_nil, List.any_cons, List.any_nil, Bool.and_true, Bool.true_and, Bool.or_false, Bool.false_or, Bool.and_false, Bool.false_and, Bool.or_true, Bool.true_or, Bool.not_true, Bool.not_false, Bool.xor_false, Bool.false_xor, Bool.true_xor, Bool.xor_true, List.isEmpty_nil, List.isEmpty_cons, clr, atI_0, atI_1, atI_2, atI_n1, asBls, asInts, dEq_int, dOk_int, dDep_int, Nat.min_self, decide_eq_true_eq, Nat.zero_le, Nat.not_lt_zero, List.cons.injEq, exists_eq_left', exists_and_left, Option.map_some, id_eq, decide_true, decide_false, Bool.not_eq_true, ne_eq, not_true_eq_false, not_false_eq_true]
        refine ⟨by unfold line; omega, cl_pure (fun x => some (.bl (pairOk x))) (fun x hx K hK => ?_) ?_⟩
        · have kx : isKn m x [.tup] = true := kn_pl (pls_mem hp hx) rfl
          simp only [ws, wx, wl, wi, opd, prt, tst, val, ownv, startR, w1, w2, wII, wint, wb, bt, opt, sq, sqL, sqi, tyOf, isTy, setp, sets, wsl, cturn, fl, cl, List.map_cons, List.map_nil, List.length_cons, List.length_nil, List.nil_append, List.cons_append, List.append_nil, List.replicate, List.getElem?_cons_zero, List.getElem?_cons_succ, List.getElem?_nil, List.set_cons_zero, List.set_cons_succ, List.set_nil, Nat.zero_add, Nat.reduceAdd, Nat.reduceSub, Nat.sub_self, Nat.reduceLT, Nat.lt_add_one, Nat.zero_lt_succ, true_and, and_true, if_true, if_false, Bool.true_eq, Bool.false_eq_true, reduceIte, isNon, List.all_cons, List.all_nil, List.any_cons, List.any_nil, Bool.and_true, Bool.true_and, Bool.or_false, Bool.false_or, Bool.and_false, Bool.false_and, Bool.or_true, Bool.true_or, Bool.not_true, Bool.not_false, Bool.xor_false, Bool.false_xor, Bool.true_xor, Bool.xor_true, List.isEmpty_nil, List.isEmpty_cons, clr, atI_0, atI_1, atI_2, atI_n1, asBls, asInts, dEq_int, dOk_int, dDep_int, Nat.min_self, decide_eq_true_eq, Nat.zero_le, Nat.not_lt_zero, List.cons.injEq, exists_eq_left', exists_and_left, Option.map_some, id_eq, decide_true, decide_false, Bool.not_eq_true, ne_eq, not_true_eq_false, not_false_eq_true, kx]
          by_cases hx2 : ∃ ys, x = .tup ys
          · obtain ⟨ys, rfl⟩ := hx2
            simp only [ws, wx, wl, wi, opd, prt, tst, val, ownv, startR, w1, w2, wII, wint, wb, bt, opt, sq, sqL, sqi, tyOf, isTy, setp, sets, wsl, cturn, fl, cl, List.map_cons, List.map_nil, List.length_cons, List.length_nil, List.nil_append, List.cons_append, List.append_nil, List.replicate, List.getElem?_cons_zero, List.getElem?_cons_succ, List.getElem?_nil, List.set_cons_zero, List.set_cons_succ, List.set_nil, Nat.zero_add, Nat.reduceAdd, Nat.reduceSub, Nat.sub_self, Nat.reduceLT, Nat.lt_add_one, Nat.zero_lt_succ, true_and, and_true, if_true, if_false, Bool.true_eq, Bool.false_eq_true, reduceIte, isNon, List.all_cons, List.all_nil, List.any_cons, List.any_nil, Bool.and_true, Bool.true_and, Bool.or_false, Bool.false_or, Bool.and_false, Bool.false_and, Bool.or_true, Bool.true_or, Bool.not_true, Bool.not_false, Bool.xor_false, Bool.false_xor, Bool.true_xor, Bool.xor_true, List.isEmpty_nil, List.isEmpty_cons, clr, atI_0, atI_1, atI_2, atI_n1, asBls, asInts, dEq_int, dOk_int, dDep_int, Nat.min_self, decide_eq_true_eq, Nat.zero_le, Nat.not_lt_zero, List.cons.injEq, exists_eq_left', exists_and_left, Option.map_some, id_eq, decide_true, decide_false, Bool.not_eq_true, ne_eq, not_true_eq_false, not_false_eq_true]
            have e : ((ys.length : Int) == 2) = pairOk (.tup ys) := by
              match ys with
              | [] => rfl
              | [_] => rfl
              | [_, _] => rfl
              | _ :: _ :: _ :: _ => 
                rw [Bool.eq_iff_iff]
                simp [pairOk]
                omega
            rw [e]
            exact hK
          · have e : pairOk x = false := by
              rw [Bool.eq_false_iff]
              intro z
              obtain ⟨a, b, rfl⟩ := pairOk_iff.mp z
              exact hx2 ⟨_, rfl⟩
            rw [e] at hK
            cases x <;> first | exact absurd ⟨_, rfl⟩ hx2 | exact hK
        · rw [fm_some]
          simp only [ws, wx, wl, wi, opd, prt, tst, val, ownv, startR, w1, w2, wII, wint, wb, bt, opt, sq, sqL, sqi, tyOf, isTy, setp, sets, wsl, cturn, fl, cl, List.map_cons, List.map_nil, List.length_cons, List.length_nil, List.nil_append, List.cons_append, List.append_nil, List.replicate, List.getElem?_cons_zero, List.getElem?_cons_succ, List.getElem?_nil, List.set_cons_zero, List.set_cons_succ, List.set_nil, Nat.zero_add, Nat.reduceAdd, Nat.reduceSub, Nat.sub_self, Nat.reduceLT, Nat.lt_add_one, Nat.zero_lt_succ, true_and, and_true, if_true, if_false, Bool.true_eq, Bool.false_eq_true, reduceIte, isNon, List.all_cons, List.all_nil, List.any_cons, List.any_nil, Bool.and_true, Bool.true_and, Bool.or_false, Bool.false_or, Bool.and_false, Bool.false_and, Bool.or_true, Bool.true_or, Bool.not_true, Bool.not_false, Bool.xor_false, Bool.false_xor, Bool.true_xor, Bool.xor_true, List.isEmpty_nil, List.isEmpty_cons, clr, atI_0, atI_1, atI_2, atI_n1, asBls, asInts, dEq_int, dOk_int, dDep_int, Nat.min_self, decide_eq_true_eq, Nat.zero_le, Nat.not_lt_zero, List.cons.injEq, exists_eq_left', exists_and_left, Option.map_some, id_eq, decide_true, decide_false, Bool.not_eq_true, ne_eq, not_true_eq_false, not_false_eq_true]
          rw [asBls_map pairOk _ (fun _ => rfl)]
          dsimp only
          cases a1 : (xs.map pairOk).all id with
          | false =>
            simp only [ws, wx, wl, wi, opd, prt, tst, val, ownv, startR, w1, w2, wII, wint, wb, bt, opt, sq, sqL, sqi, tyOf, isTy, setp, sets, wsl, cturn, fl, cl, List.map_cons, List.map_nil, List.length_cons, List.length_nil, List.nil_append, List.cons_append, List.append_nil, List.replicate, List.getElem?_cons_zero, List.getElem?_cons_succ, List.getElem?_nil, List.set_cons_zero, List.set_cons_succ, List.set_nil, Nat.zero_add, Nat.reduceAdd, Nat.reduceSub, Nat.sub_self, Nat.reduceLT, Nat.lt_add_one, Nat.zero_lt_succ, true_and, and_true, if_true, if_false, Bool.true_eq, Bool.false_eq_true, reduceIte, isNon, List.all_cons, List.all_nil, List.any_cons, List.any_nil, Bool.and_true, Bool.true_and, Bool.or_false, Bool.false_or, Bool.and_false, Bool.false_and, Bool.or_true, Bool.true_or, Bool.not_true, Bool.not_false, Bool.xor_false, Bool.false_xor, Bool.true_xor, Bool.xor_true, List.isEmpty_nil, List.isEmpty_cons, clr, atI_0, atI_1, atI_2, atI_n1, asBls, asInts, dEq_int, dOk_int, dDep_int, Nat.min_self, decide_eq_true_eq, Nat.zero_le, Nat.not_lt_zero, List.cons.injEq, exists_eq_left', exists_and_left, Option.map_some, id_eq, decide_true, decide_false, Bool.not_eq_true, ne_eq, not_true_eq_false, not_false_eq_true]
            refine q false ⟨(fun z => nomatch z), ?_⟩
            rintro ⟨l, e, v⟩
            injection e with e
            subst e
            rw [← a1, List.all_map]
            simp [pairOk, List.all_map]
          | true =>
            have prs : ∀ x ∈ xs, ∃ a b, x = .tup [a, b] := fun x hx => pairOk_iff.mp (by
              have := List.all_eq_true.mp a1 (pairOk x) (List.mem_map_of_mem hx)
              simpa using this)
            simp only [ws, wx, wl, wi, opd, prt, tst, val, ownv, startR, w1, w2, wII, wint, wb, bt, opt, sq, sqL, sqi, tyOf, isTy, setp, sets, wsl, cturn, fl, cl, List.map_cons, List.map_nil, List.length_cons, List.length_nil, List.nil_append, List.cons_append, List.append_nil, List.replicate, List.getElem?_cons_zero, List.getElem?_cons_succ, List.getElem?_nil, List.set_cons_zero, List.set_cons_succ, List.set_nil, Nat.zero_add, Nat.reduceAdd, Nat.reduceSub, Nat.sub_self, Nat.reduceLT, Nat.lt_add_one, Nat.zero_lt_succ, true_and, and_true, if_true, if_false, Bool.true_eq, Bool.false_eq_true, reduceIte, isNon, List.all_cons, List.all_nil, List.any_cons, List.any_nil, Bool.and_true, Bool.true_and, Bool.or_false, Bool.false_or, Bool.and_false, Bool.false_and, Bool.or_true, Bool.true_or, Bool.not_true, Bool.not_false, Bool.xor_false, Bool.false_xor, Bool.true_xor, Bool.xor_true, List.isEmpty_nil, List.isEmpty_cons, clr, atI_0, atI_1, atI_2, atI_n1, asBls, asInts, dEq_int, dOk_int, dDep_int, Nat.min_self, decide_eq_true_eq, Nat.zero_le, Nat.not_lt_zero, List.cons.injEq, exists_eq_left', exists_and_left, Option.map_some, id_eq, decide_true, decide_false, Bool.not_eq_true, ne_eq, not_true_eq_false, not_false_eq_true]
            refine ⟨by unfold line; omega, cl_pure (fun x => some (.bl (cellOk x))) (fun x hx K hK => ?_) ?_⟩
            · obtain ⟨a, b, rfl⟩ := prs x hx
              have px := pls_mem hp hx
              obtain ⟨_, px⟩ := pl_tup.mp px
              have pa : pl a = true := pls_mem px (by simp)
              have pb : pl b = true := pls_mem px (by simp)
              have hK : K (some (.bl (isRat a && (isCh b && posN b)))) M := hK
              simp only [ws, wx, wl, wi, opd, prt, tst, val, ownv, startR, w1, w2, wII, wint, wb, bt, opt, sq, sqL, sqi, tyOf, isTy, setp, sets, wsl, cturn, fl, cl, List.map_cons, List.map_nil, List.length_cons, List.length_nil, List.nil_append, List.cons_append, List.append_nil, List.replicate, List.getElem?_cons_zero, List.getElem?_cons_succ, List.getElem?_nil, List.set_cons_zero, List.set_cons_succ, List.set_nil, Nat.zero_add, Nat.reduceAdd, Nat.reduceSub, Nat.sub_self, Nat.reduceLT, Nat.lt_add_one, Nat.zero_lt_succ, true_and, and_true, if_true, if_false, Bool.true_eq, Bool.false_eq_true, reduceIte, isNon, List.all_cons, List.all_nil, List.any_cons, List.any_nil, Bool.and_true, Bool.true_and, Bool.or_false, Bool.false_or, Bool.and_false, Bool.false_and, Bool.or_true, Bool.true_or, Bool.not_true, Bool.not_false, Bool.xor_false, Bool.false_xor, Bool.true_xor, Bool.xor_true, List.isEmpty_nil, List.isEmpty_cons, clr, atI_0, atI_1, atI_2, atI_n1, asBls, asInts, dEq_int, dOk_int, dDep_int, Nat.min_self, decide_eq_true_eq, Nat.zero_le, Nat.not_lt_zero, List.cons.injEq, exists_eq_left', exists_and_left, Option.map_some, id_eq, decide_true, decide_false, Bool.not_eq_true, ne_eq, not_true_eq_false, not_false_eq_true, h1, h2, spB, pa, pb]
              cases ra : isRat a with
              | false => rw [ra] at hK; exact hK
              | true =>
                rw [ra, Bool.true_and] at hK
                simp only [ws, wx, wl, wi, opd, prt, tst, val, ownv, startR, w1, w2, wII, wint, wb, bt, opt, sq, sqL, sqi, tyOf, isTy, setp, sets, wsl, cturn, fl, cl, List.map_cons, List.map_nil, List.length_cons, List.length_nil, List.nil_append, List.cons_append, List.append_nil, List.replicate, List.getElem?_cons_zero, List.getElem?_cons_succ, List.getElem?_nil, List.set_cons_zero, List.set_cons_succ, List.set_nil, Nat.zero_add, Nat.reduceAdd, Nat.reduceSub, Nat.sub_self, Nat.reduceLT, Nat.lt_add_one, Nat.zero_lt_succ, true_and, and_true, if_true, if_false, Bool.true_eq, Bool.false_eq_true, reduceIte, isNon, List.all_cons, List.all_nil, List.any_cons, List.any_nil, Bool.and_true, Bool.true_and, Bool.or_false, Bool.false_or, Bool.and_false, Bool.false_and, Bool.or_true, Bool.true_or, Bool.not_true, Bool.not_false, Bool.xor_false, Bool.false_xor, Bool.true_xor, Bool.xor_true, List.isEmpty_nil, List.isEmpty_cons, clr, atI_0, atI_1, atI_2, atI_n1, asBls, asInts, dEq_int, dOk_int, dDep_int, Nat.min_self, decide_eq_true_eq, Nat.zero_le, Nat.not_lt_zero, List.cons.injEq, exists_eq_left', exists_and_left, Option.map_some, id_eq, decide_true, decide_false, Bool.not_eq_true, ne_eq, not_true_eq_false, not_false_eq_true]
                cases cb : isCh b with
                | false => rw [cb] at hK; exact hK
                | true =>
                  rw [cb, Bool.true_and] at hK
                  have rb : isRat b = true := by
                    unfold isCh at cb
                    rw [Bool.and_eq_true] at cb
                    exact cb.1
                  obtain ⟨p, rfl⟩ := rat_rD rb
                  simp only [rD, ws, wx, wl, wi, opd, prt, tst, val, ownv, startR, w1, w2, wII, wint, wb, bt, opt, sq, sqL, sqi, tyOf, isTy, setp, sets, wsl, cturn, fl, cl, List.map_cons, List.map_nil, List.length_cons, List.length_nil, List.nil_append, List.cons_append, List.append_nil, List.replicate, List.getElem?_cons_zero, List.getElem?_cons_succ, List.getElem?_nil, List.set_cons_zero, List.set_cons_succ, List.set_nil, Nat.zero_add, Nat.reduceAdd, Nat.reduceSub, Nat.sub_self, Nat.reduceLT, Nat.lt_add_one, Nat.zero_lt_succ, true_and, and_true, if_true, if_false, Bool.true_eq, Bool.false_eq_true, reduceIte, isNon, List.all_cons, List.all_nil, List.any_cons, List.any_nil, Bool.and_true, Bool.true_and, Bool.or_false, Bool.false_or, Bool.and_false, Bool.false_and, Bool.or_true, Bool.true_or, Bool.not_true, Bool.not_false, Bool.xor_false, Bool.false_xor, Bool.true_xor, Bool.xor_true, List.isEmpty_nil, List.isEmpty_cons, clr, atI_0, atI_1, atI_2, atI_n1, asBls, asInts, dEq_int, dOk_int, dDep_int, Nat.min_self, decide_eq_true_eq, Nat.zero_le, Nat.not_lt_zero, List.cons.injEq, exists_eq_left', exists_and_left, Option.map_some, id_eq, decide_true, decide_false, Bool.not_eq_true, ne_eq, not_true_eq_false, not_false_eq_true]
                  exact hK
            · rw [fm_some]
              simp only [ws, wx, wl, wi, opd, prt, tst, val, ownv, startR, w1, w2, wII, wint, wb, bt, opt, sq, sqL, sqi, tyOf, isTy, setp, sets, wsl, cturn, fl, cl, List.map_cons, List.map_nil, List.length_cons, List.length_nil, List.nil_append, List.cons_append, List.append_nil, List.replicate, List.getElem?_cons_zero, List.getElem?_cons_succ, List.getElem?_nil, List.set_cons_zero, List.set_cons_succ, List.set_nil, Nat.zero_add, Nat.reduceAdd, Nat.reduceSub, Nat.sub_self, Nat.reduceLT, Nat.lt_add_one, Nat.zero_lt_succ, true_and, and_true, if_true, if_false, Bool.true_eq, Bool.false_eq_true, reduceIte, isNon, List.all_cons, List.all_nil, List.any_cons, List.any_nil, Bool.and_true, Bool.true_and, Bool.or_false, Bool.false_or, Bool.and_false, Bool.false_and, Bool.or_true, Bool.true_or, Bool.not_true, Bool.not_false, Bool.xor_false, Bool.false_xor, Bool.true_xor, Bool.xor_true, List.isEmpty_nil, List.isEmpty_cons, clr, atI_0, atI_1, atI_2, atI_n1, asBls, asInts, dEq_int, dOk_int, dDep_int, Nat.min_self, decide_eq_true_eq, Nat.zero_le, Nat.not_lt_zero, List.cons.injEq, exists_eq_left', exists_and_left, Option.map_some, id_eq, decide_true, decide_false, Bool.not_eq_true, ne_eq, not_true_eq_false, not_false_eq_true]
              rw [asBls_map cellOk _ (fun _ => rfl)]
              dsimp only
              cases a2 : (xs.map cellOk).all id with
              | false =>
                simp only [ws, wx, wl, wi, opd, prt, tst, val, ownv, startR, w1, w2, wII, wint, wb, bt, opt, sq, sqL, sqi, tyOf, isTy, setp, sets, wsl, cturn, fl, cl, List.map_cons, List.map_nil, List.length_cons, List.length_nil, List.nil_append, List.cons_append, List.append_nil, List.replicate, List.getElem?_cons_zero, List.getElem?_cons_succ, List.getElem?_nil, List.set_cons_zero, List.set_cons_succ, List.set_nil, Nat.zero_add, Nat.reduceAdd, Nat.reduceSub, Nat.sub_self, Nat.reduceLT, Nat.lt_add_one, Nat.zero_lt_succ, true_and, and_true, if_true, if_false, Bool.true_eq, Bool.false_eq_true, reduceIte, isNon, List.all_cons, List.all_nil, List.any_cons, List.any_nil, Bool.and_true, Bool.true_and, Bool.or_false, Bool.false_or, Bool.and_false, Bool.false_and, Bool.or_true, Bool.true_or, Bool.not_true, Bool.not_false, Bool.xor_false, Bool.false_xor, Bool.true_xor, Bool.xor_true, List.isEmpty_nil, List.isEmpty_cons, clr, atI_0, atI_1, atI_2, atI_n1, asBls, asInts, dEq_int, dOk_int, dDep_int, Nat.min_self, decide_eq_true_eq, Nat.zero_le, Nat.not_lt_zero, List.cons.injEq, exists_eq_left', exists_and_left, Option.map_some, id_eq, decide_true, decide_false, Bool.not_eq_true, ne_eq, not_true_eq_false, not_false_eq_true]
                refine q false ⟨(fun z => nomatch z), ?_⟩
                rintro ⟨l, e, v⟩
                injection e with e
                subst e
                rw [← a2, List.all_map, List.all_map, List.all_eq_true]
                intro p hp
                exact cellOk_iff.mpr ⟨p, rfl, v.pos p hp⟩
              | true =>
                obtain ⟨l, rfl, hpos⟩ := cells_map (xs := xs) fun x hx => by
                  have := List.all_eq_true.mp a2 (cellOk x) (List.mem_map_of_mem hx)
                  simpa using this
                have hm : sms (l.map pD) = true := hs
                have szs : ∀ p ∈ l, Sz 400 p.1 ∧ Sz 400 p.2 := fun p hp => by
                  have h3 := sms_mem hm (List.mem_map_of_mem hp)
                  have h4 : (sm (rD p.1) && (sm (rD p.2) && true)) = true := h3
                  rw [Bool.and_true, Bool.and_eq_true] at h4
                  exact ⟨sm_rD h4.1, sm_rD h4.2⟩
                simp only [ws, wx, wl, wi, opd, prt, tst, val, ownv, startR, w1, w2, wII, wint, wb, bt, opt, sq, sqL, sqi, tyOf, isTy, setp, sets, wsl, cturn, fl, cl, List.map_cons, List.map_nil, List.length_cons, List.length_nil, List.nil_append, List.cons_append, List.append_nil, List.replicate, List.getElem?_cons_zero, List.getElem?_cons_succ, List.getElem?_nil, List.set_cons_zero, List.set_cons_succ, List.set_nil, Nat.zero_add, Nat.reduceAdd, Nat.reduceSub, Nat.sub_self, Nat.reduceLT, Nat.lt_add_one, Nat.zero_lt_succ, true_and, and_true, if_true, if_false, Bool.true_eq, Bool.false_eq_true, reduceIte, isNon, List.all_cons, List.all_nil, List.any_cons, List.any_nil, Bool.and_true, Bool.true_and, Bool.or_false, Bool.false_or, Bool.and_false, Bool.false_and, Bool.or_true, Bool.true_or, Bool.not_true, Bool.not_false, Bool.xor_false, Bool.false_xor, Bool.true_xor, Bool.xor_true, List.isEmpty_nil, List.isEmpty_cons, clr, atI_0, atI_1, atI_2, atI_n1, asBls, asInts, dEq_int, dOk_int, dDep_int, Nat.min_self, decide_eq_true_eq, Nat.zero_le, Nat.not_lt_zero, List.cons.injEq, exists_eq_left', exists_and_left, Option.map_some, id_eq, decide_true, decide_false, Bool.not_eq_true, ne_eq, not_true_eq_false, not_false_eq_true, cut_1, zip_ris]
                have hlen : l.length ≤ 8 := by simp at c2; omega
                have hlen1 : 1 ≤ l.length := by simp at c1; omega
                refine ⟨by simp [line]; omega, cl_map _ (fun p => some (.bl (decide (p.1.1 < p.2.1)))) (fun p hp K hK => ?_) ?_⟩
                · obtain ⟨hp1, hp2⟩ := List.of_mem_zip hp
                  have s1 := (szs _ hp1).1.mono (show 400 ≤ 4000 by decide)
                  have s2 := (szs _ (List.mem_of_mem_drop hp2)).1.mono (show 400 ≤ 4000 by decide)
                  simp only [ws, wx, wl, wi, opd, prt, tst, val, ownv, startR, w1, w2, wII, wint, wb, bt, opt, sq, sqL, sqi, tyOf, isTy, setp, sets, wsl, cturn, fl, cl, List.map_cons, List.map_nil, List.length_cons, List.length_nil, List.nil_append, List.cons_append, List.append_nil, List.replicate, List.getElem?_cons_zero, List.getElem?_cons_succ, List.getElem?_nil, List.set_cons_zero, List.set_cons_succ, List.set_nil, Nat.zero_add, Nat.reduceAdd, Nat.reduceSub, Nat.sub_self, Nat.reduceLT, Nat.lt_add_one, Nat.zero_lt_succ, true_and, and_true, if_true, if_false, Bool.true_eq, Bool.false_eq_true, reduceIte, isNon, List.all_cons, List.all_nil, List.any_cons, List.any_nil, Bool.and_true, Bool.true_and, Bool.or_false, Bool.false_or, Bool.and_false, Bool.false_and, Bool.or_true, Bool.true_or, Bool.not_true, Bool.not_false, Bool.xor_false, Bool.false_xor, Bool.true_xor, Bool.xor_true, List.isEmpty_nil, List.isEmpty_cons, clr, atI_0, atI_1, atI_2, atI_n1, asBls, asInts, dEq_int, dOk_int, dDep_int, Nat.min_self, decide_eq_true_eq, Nat.zero_le, Nat.not_lt_zero, List.cons.injEq, exists_eq_left', exists_and_left, Option.map_some, id_eq, decide_true, decide_false, Bool.not_eq_true, ne_eq, not_true_eq_false, not_false_eq_true, pD, h8, spLess, rD_inj]
                  exact ⟨by simp, _, _, ⟨rfl, rfl⟩, ⟨s1, s2⟩, hK⟩
                · rw [fm_some]
                  simp only [ws, wx, wl, wi, opd, prt, tst, val, ownv, startR, w1, w2, wII, wint, wb, bt, opt, sq, sqL, sqi, tyOf, isTy, setp, sets, wsl, cturn, fl, cl, List.map_cons, List.map_nil, List.length_cons, List.length_nil, List.nil_append, List.cons_append, List.append_nil, List.replicate, List.getElem?_cons_zero, List.getElem?_cons_succ, List.getElem?_nil, List.set_cons_zero, List.set_cons_succ, List.set_nil, Nat.zero_add, Nat.reduceAdd, Nat.reduceSub, Nat.sub_self, Nat.reduceLT, Nat.lt_add_one, Nat.zero_lt_succ, true_and, and_true, if_true, if_false, Bool.true_eq, Bool.false_eq_true, reduceIte, isNon, List.all_cons, List.all_nil, List.any_cons, List.any_nil, Bool.and_true, Bool.true_and, Bool.or_false, Bool.false_or, Bool.and_false, Bool.false_and, Bool.or_true, Bool.true_or, Bool.not_true, Bool.not_false, Bool.xor_false, Bool.false_xor, Bool.true_xor, Bool.xor_true, List.isEmpty_nil, List.isEmpty_cons, clr, atI_0, atI_1, atI_2, atI_n1, asBls, asInts, dEq_int, dOk_int, dDep_int, Nat.min_self, decide_eq_true_eq, Nat.zero_le, Nat.not_lt_zero, List.cons.injEq, exists_eq_left', exists_and_left, Option.map_some, id_eq, decide_true, decide_false, Bool.not_eq_true, ne_eq, not_true_eq_false, not_false_eq_true]
                  rw [asBls_map (fun p : (Rat × Rat) × (Rat × Rat) => decide (p.1.1 < p.2.1)) _ (fun _ => rfl), risB_zip]
                  dsimp only
                  cases a3 : (risB (l.map (·.1))).all id with
                  | false =>
                    simp only [ws, wx, wl, wi, opd, prt, tst, val, ownv, startR, w1, w2, wII, wint, wb, bt, opt, sq, sqL, sqi, tyOf, isTy, setp, sets, wsl, cturn, fl, cl, List.map_cons, List.map_nil, List.length_cons, List.length_nil, List.nil_append, List.cons_append, List.append_nil, List.replicate, List.getElem?_cons_zero, List.getElem?_cons_succ, List.getElem?_nil, List.set_cons_zero, List.set_cons_succ, List.set_nil, Nat.zero_add, Nat.reduceAdd, Nat.reduceSub, Nat.sub_self, Nat.reduceLT, Nat.lt_add_one, Nat.zero_lt_succ, true_and, and_true, if_true, if_false, Bool.true_eq, Bool.false_eq_true, reduceIte, isNon, List.all_cons, List.all_nil, List.any_cons, List.any_nil, Bool.and_true, Bool.true_and, Bool.or_false, Bool.false_or, Bool.and_false, Bool.false_and, Bool.or_true, Bool.true_or, Bool.not_true, Bool.not_false, Bool.xor_false, Bool.false_xor, Bool.true_xor, Bool.xor_true, List.isEmpty_nil, List.isEmpty_cons, clr, atI_0, atI_1, atI_2, atI_n1, asBls, asInts, dEq_int, dOk_int, dDep_int, Nat.min_self, decide_eq_true_eq, Nat.zero_le, Nat.not_lt_zero, List.cons.injEq, exists_eq_left', exists_and_left, Option.map_some, id_eq, decide_true, decide_false, Bool.not_eq_true, ne_eq, not_true_eq_false, not_false_eq_true]
                    refine q false ⟨(fun z => nomatch z), ?_⟩
                    rintro ⟨l', e, v⟩
                    have el : l = l' := numD_inj e
                    subst el
                    rw [← a3]; exact risB_ok.mpr v.ris
                  | true =>
                    simp only [ws, wx, wl, wi, opd, prt, tst, val, ownv, startR, w1, w2, wII, wint, wb, bt, opt, sq, sqL, sqi, tyOf, isTy, setp, sets, wsl, cturn, fl, cl, List.map_cons, List.map_nil, List.length_cons, List.length_nil, List.nil_append, List.cons_append, List.append_nil, List.replicate, List.getElem?_cons_zero, List.getElem?_cons_succ, List.getElem?_nil, List.set_cons_zero, List.set_cons_succ, List.set_nil, Nat.zero_add, Nat.reduceAdd, Nat.reduceSub, Nat.sub_self, Nat.reduceLT, Nat.lt_add_one, Nat.zero_lt_succ, true_and, and_true, if_true, if_false, Bool.true_eq, Bool.false_eq_true, reduceIte, isNon, List.all_cons, List.all_nil, List.any_cons, List.any_nil, Bool.and_true, Bool.true_and, Bool.or_false, Bool.false_or, Bool.and_false, Bool.false_and, Bool.or_true, Bool.true_or, Bool.not_true, Bool.not_false, Bool.xor_false, Bool.false_xor, Bool.true_xor, Bool.xor_true, List.isEmpty_nil, List.isEmpty_cons, clr, atI_0, atI_1, atI_2, atI_n1, asBls, asInts, dEq_int, dOk_int, dDep_int, Nat.min_self, decide_eq_true_eq, Nat.zero_le, Nat.not_lt_zero, List.cons.injEq, exists_eq_left', exists_and_left, Option.map_some, id_eq, decide_true, decide_false, Bool.not_eq_true, ne_eq, not_true_eq_false, not_false_eq_true]
                    refine ⟨by simp [line]; omega, cl_map _ (fun p => some (rD p.2)) (fun p hp K hK => ?_) ?_⟩
                    · simp only [ws, wx, wl, wi, opd, prt, tst, val, ownv, startR, w1, w2, wII, wint, wb, bt, opt, sq, sqL, sqi, tyOf, isTy, setp, sets, wsl, cturn, fl, cl, List.map_cons, List.map_nil, List.length_cons, List.length_nil, List.nil_append, List.cons_append, List.append_nil, List.replicate, List.getElem?_cons_zero, List.getElem?_cons_succ, List.getElem?_nil, List.set_cons_zero, List.set_cons_succ, List.set_nil, Nat.zero_add, Nat.reduceAdd, Nat.reduceSub, Nat.sub_self, Nat.reduceLT, Nat.lt_add_one, Nat.zero_lt_succ, true_and, and_true, if_true, if_false, Bool.true_eq, Bool.false_eq_true, reduceIte, isNon, List.all_cons, List.all_nil, List.any_cons, List.any_nil, Bool.and_true, Bool.true_and, Bool.or_false, Bool.false_or, Bool.and_false, Bool.false_and, Bool.or_true, Bool.true_or, Bool.not_true, Bool.not_false, Bool.xor_false, Bool.false_xor, Bool.true_xor, Bool.xor_true, List.isEmpty_nil, List.isEmpty_cons, clr, atI_0, atI_1, atI_2, atI_n1, asBls, asInts, dEq_int, dOk_int, dDep_int, Nat.min_self, decide_eq_true_eq, Nat.zero_le, Nat.not_lt_zero, List.cons.injEq, exists_eq_left', exists_and_left, Option.map_some, id_eq, decide_true, decide_false, Bool.not_eq_true, ne_eq, not_true_eq_false, not_false_eq_true, pD]
                      exact hK
                    · rw [fm_some]
                      simp only [ws, wx, wl, wi, opd, prt, tst, val, ownv, startR, w1, w2, wII, wint, wb, bt, opt, sq, sqL, sqi, tyOf, isTy, setp, sets, wsl, cturn, fl, cl, List.map_cons, List.map_nil, List.length_cons, List.length_nil, List.nil_append, List.cons_append, List.append_nil, List.replicate, List.getElem?_cons_zero, List.getElem?_cons_succ, List.getElem?_nil, List.set_cons_zero, List.set_cons_succ, List.set_nil, Nat.zero_add, Nat.reduceAdd, Nat.reduceSub, Nat.sub_self, Nat.reduceLT, Nat.lt_add_one, Nat.zero_lt_succ, true_and, and_true, if_true, if_false, Bool.true_eq, Bool.false_eq_true, reduceIte, isNon, List.all_cons, List.all_nil, List.any_cons, List.any_nil, Bool.and_true, Bool.true_and, Bool.or_false, Bool.false_or, Bool.and_false, Bool.false_and, Bool.or_true, Bool.true_or, Bool.not_true, Bool.not_false, Bool.xor_false, Bool.false_xor, Bool.true_xor, Bool.xor_true, List.isEmpty_nil, List.isEmpty_cons, clr, atI_0, atI_1, atI_2, atI_n1, asBls, asInts, dEq_int, dOk_int, dDep_int, Nat.min_self, decide_eq_true_eq, Nat.zero_le, Nat.not_lt_zero, List.cons.injEq, exists_eq_left', exists_and_left, Option.map_some, id_eq, decide_true, decide_false, Bool.not_eq_true, ne_eq, not_true_eq_false, not_false_eq_true, h9, spSum]
                      have hden : ∀ q ∈ l.map (·.2), q.den < 2 ^ 400 ∧ 0 ≤ q ∧ q ≤ 1 := fun q hq => by
                        obtain ⟨p, hp, rfl⟩ := List.mem_map.mp hq
                        obtain ⟨h5, h6⟩ := hpos p hp
                        exact ⟨(szs p hp).2.2, by grind, h6⟩
                      obtain ⟨Nn, n1, n2, n3⟩ := prod_fr _ hden
                      have n4 : Nn ≤ 2 ^ 3200 := Nat.le_trans n2 (Nat.pow_le_pow_right (by decide) (by rw [List.length_map]; omega))
                      refine ⟨l.map (·.2), by rw [List.map_map]; rfl, Nn, Nn, ⟨n1, ?_, ?_, n3⟩, rfl, by rw [g1]; rfl, by rw [g1, dDep_rD, dDep_rD]; decide, ?_⟩
                      · exact Nat.lt_of_le_of_lt n4 (Nat.pow_lt_pow_right (by decide) (by decide))
                      · rw [List.length_map]
                        have e1 : (l.length + 1) * (Nn + 1) ≤ 9 * (2 ^ 3200 + 1) := Nat.mul_le_mul (by omega) (by omega)
                        refine Nat.lt_of_le_of_lt e1 ?_
                        decide +kernel
                      · rw [g1, dEq_rD]
                        refine q _ ?_
                        rw [decide_eq_true_eq]
                        constructor
                        · intro h
                          exact ⟨l, rfl, hlen1, hlen, hpos, risB_ok.mp a3, h⟩
                        · rintro ⟨l', e, v⟩
                          have el : l = l' := numD_inj e
                          subst el
                          exact v.one
      · simp only [if_pos c1, c2, ws, wx, wl, wi, opd, prt, tst, val, ownv, startR, w1, w2, wII, wint, wb, bt, opt, sq, sqL, sqi, tyOf, isTy, setp, sets, wsl, cturn, fl, cl, List.map_cons, List.map_nil, List.length_cons, List.length_nil, List.nil_append, List.cons_append, List.append_nil, List.replicate, List.getElem?_cons_zero, List.getElem?_cons_succ, List.getElem?_nil, List.set_cons_zero, List.set_cons_succ, List.set_nil, Nat.zero_add, Nat.reduceAdd, Nat.reduceSub, Nat.sub_self, Nat.reduceLT, Nat.lt_add_one, Nat.zero_lt_succ, true_and, and_true, if_true, if_false, Bool.true_eq, Bool.false_eq_true, reduceIte, isNon, List.all_cons, List.all_nil, List.any_cons, List.any_nil, Bool.and_true, Bool.true_and, Bool.or_false, Bool.false_or, Bool.and_false, Bool.false_and, Bool.or_true, Bool.true_or, Bool.not_true, Bool.not_false, Bool.xor_false, Bool.false_xor, Bool.true_xor, Bool.xor_true, List.isEmpty_nil, List.isEmpty_cons, clr, atI_0, atI_1, atI_2, atI_n1, asBls, asInts, dEq_int, dOk_int, dDep_int, Nat.min_self, decide_eq_true_eq, Nat.zero_le, Nat.not_lt_zero, List.cons.injEq, exists_eq_left', exists_and_left, Option.map_some, id_eq, decide_true, decide_false, Bool.not_eq_true, ne_eq, not_true_eq_false, not_false_eq_true]
        refine q false ⟨(fun z => nomatch z), ?_⟩
        rintro ⟨l, e, v⟩
        injection e with e
        subst e
        have := v.len8
        simp at c2
        omega
    · simp only [if_neg c1, ws, wx, wl, wi, opd, prt, tst, val, ownv, startR, w1, w2, wII, wint, wb, bt, opt, sq, sqL, sqi, tyOf, isTy, setp, sets, wsl, cturn, fl, cl, List.map_cons, List.map_nil, List.length_cons, List.length_nil, List.nil_append, List.cons_append, List.append_nil, List.replicate, List.getElem?_cons_zero, List.getElem?_cons_succ, List.getElem?_nil, List.set_cons_zero, List.set_cons_succ, List.set_nil, Nat.zero_add, Nat.reduceAdd, Nat.reduceSub, Nat.sub_self, Nat.reduceLT, Nat.lt_add_one, Nat.zero_lt_succ, true_and, and_true, if_true, if_false, Bool.true_eq, Bool.false_eq_true, reduceIte, isNon, List.all_cons, List.all_nil, List.any_cons, List.any_nil, Bool.and_true, Bool.true_and, Bool.or_false, Bool.false_or, Bool.and_false, Bool.false_and, Bool.or_true, Bool.true_or, Bool.not_true, Bool.not_false, Bool.xor_false, Bool.false_xor, Bool.true_xor, Bool.xor_true, List.isEmpty_nil, List.isEmpty_cons, clr, atI_0, atI_1, atI_2, atI_n1, asBls, asInts, dEq_int, dOk_int, dDep_int, Nat.min_self, decide_eq_true_eq, Nat.zero_le, Nat.not_lt_zero, List.cons.injEq, exists_eq_left', exists_and_left, Option.map_some, id_eq, decide_true, decide_false, Bool.not_eq_true, ne_eq, not_true_eq_false, not_false_eq_true]
      refine q false ⟨(fun z => nomatch z), ?_⟩
      rintro ⟨l, e, v⟩
      injection e with e
      subst e
      have := v.len1
      simp at c1
      omega
  · have e3 : isTy m d .tup = false := by cases d <;> first | rfl | exact absurd ⟨_, rfl⟩ ht
    simp only [S_are_numbers, N_are_numbers, ws, wx, val, startR, wb, List.map_cons, List.map_nil, List.length_cons, List.length_nil, List.cons_append, List.nil_append, List.getElem?_cons_zero, k1, true_and, List.any_cons, List.any_nil, Bool.or_false, e3, Bool.not_false, if_true]
    refine q false ⟨(fun z => nomatch z), ?_⟩
    rintro ⟨l, e, v⟩
    exact absurd ⟨_, e⟩ ht
end
end K75

set_option Elab.async false
set_option linter.all false
set_option maxRecDepth 100000
set_option maxHeartbeats 4000000
set_option exponentiation.threshold 100000
/-! plain laws: what is told of numbers -/
namespace K75
open PySem PySem.Spec PyProof.Rows L2 PV

/-- a value is given, or one of the program's errors flies -/
def spNeed : PV.Spec where
  run ds M Q E := ∃ d, ds = [d] ∧ (pl d = true ∧ sm d = true) ∧ (isNum d → Q .non M) ∧ (¬ isNum d → E ⟨1, []⟩ M)
  mono := fun ⟨d, h1, h2, h3, h4⟩ q e => ⟨d, h1, h2, fun h => q _ _ (h3 h), fun h => e _ _ (h4 h)⟩
theorem frz_rD (q : Rat) : rD q = .tup [.int q.num, .int q.den] := rfl
def meanOf (l : List (Rat × Rat)) : Rat := (l.map fun p => p.1 * p.2).sum
def varOf (l : List (Rat × Rat)) : Rat := (l.map fun p => (p.1 - meanOf l) * (p.1 - meanOf l) * p.2).sum
/-- sizes of numbers: points over N below B, chances over S -/
structure Nz (l : List (Rat × Rat)) : Prop where
  ex : ∃ N B S : Nat, 0 < N ∧ 0 < S ∧ N < 2 ^ 200 ∧ B < 2 ^ 200 ∧ S < 2 ^ 200 ∧ ∀ p ∈ l, Fr N B p.1 ∧ Fr S S p.2
theorem Fr.scale {N Z k : Nat} {q : Rat} (h : Fr N Z q) : Fr (N * k) (Z * k) q := by
  obtain ⟨z, h1, h2⟩ := h
  refine ⟨z * k, ?_, ?_⟩
  · rw [Int.natAbs_mul, Int.natAbs_natCast]
    exact Nat.mul_le_mul_right _ h1
  · rw [Rat.natCast_mul, Rat.intCast_mul, ← Rat.mul_assoc, h2]
    rfl
theorem fr_sum {N Z : Nat} : ∀ {qs : List Rat}, (∀ q ∈ qs, Fr N Z q) → Fr N (qs.length * Z) qs.sum
  | [], _ => Fr.zero
  | q :: qs, h => by
    rw [List.sum_cons, List.length_cons, Nat.add_mul, Nat.one_mul, Nat.add_comm]
    exact (h q (by simp)).add (fr_sum fun p hp => h p (by simp [hp]))
theorem lt_pow {a k l : Nat} (h : a < 2 ^ k) (hl : k ≤ l) : a < 2 ^ l := Nat.lt_of_lt_of_le h (Nat.pow_le_pow_right (by decide) hl)
theorem le_pow {a k l : Nat} (h : a ≤ 2 ^ k) (hl : k < l) : a < 2 ^ l := Nat.lt_of_le_of_lt h (Nat.pow_lt_pow_right (by decide) hl)
theorem mul_pow {a b k l : Nat} (h : a ≤ 2 ^ k) (h' : b ≤ 2 ^ l) : a * b ≤ 2 ^ (k + l) := by
  rw [Nat.pow_add]
  exact Nat.mul_le_mul h h'
section
variable {m : Sm} {ds : List D} {M : Ms} {Q : D → Ms → Prop} {E : Ex}
theorem p_need_numbers (h11 : m.fn 11 = spNumB) (hk : m.kept 1 = false) (h : spNeed.run ds M Q E) : ws m S_need_numbers E (startR N_need_numbers ds) M { nx := fun _ M' => Q .non M', rt := Q } := by
  obtain ⟨d, rfl, ⟨hp, hs⟩, q1, q2⟩ := h
  simp only [S_need_numbers, N_need_numbers, ws, wx, wl, wi, opd, prt, tst, val, ownv, startR, w1, w2, wII, wint, wb, bt, opt, sq, sqL, sqi, tyOf, isTy, setp, sets, wsl, cturn, fl, cl, List.map_cons, List.map_nil, List.length_cons, List.length_nil, List.nil_append, List.cons_append, List.append_nil, List.replicate, List.getElem?_cons_zero, List.getElem?_cons_succ, List.getElem?_nil, List.set_cons_zero, List.set_cons_succ, List.set_nil, Nat.zero_add, Nat.reduceAdd, Nat.reduceSub, Nat.sub_self, Nat.reduceLT, Nat.lt_add_one, Nat.zero_lt_succ, true_and, and_true, if_true, if_false, Bool.true_eq, Bool.false_eq_true, reduceIte, isNon, List.all_cons, List.all_nil, List.any_cons, List.any_nil, Bool.and_true, Bool.true_and, Bool.or_false, Bool.false_or, Bool.and_false, Bool.false_and, Bool.or_true, Bool.true_or, Bool.not_true, Bool.not_false, Bool.xor_false, Bool.false_xor, Bool.true_xor, Bool.xor_true, List.isEmpty_nil, List.isEmpty_cons, clr, atI_0, atI_1, atI_2, atI_n1, asBls, asInts, dEq_int, dOk_int, dDep_int, Nat.min_self, decide_eq_true_eq, Nat.zero_le, Nat.not_lt_zero, List.cons.injEq, exists_eq_left', exists_and_left, Option.map_some, id_eq, decide_true, decide_false, Bool.not_eq_true, ne_eq, not_true_eq_false, not_false_eq_true, h11, spNumB, hp, hs, hk]
  intro b hb
  cases b with
  | true => exact q1 (hb.mp rfl)
  | false => exact q2 fun z => by have := hb.mpr z; cases this
def spMean : PV.Spec where
  run ds M Q E := ∃ d, ds = [d] ∧ (pl d = true ∧ sm d = true ∧ ∀ l, d = numD l → VN l → Nz l) ∧ (∀ l, d = numD l → VN l → Q (.tup [rD (meanOf l), rD (varOf l)]) M) ∧ (¬ isNum d → E ⟨1, []⟩ M)
  mono := fun ⟨d, h1, h2, h3, h4⟩ q e => ⟨d, h1, h2, fun l h v => q _ _ (h3 l h v), fun h => e _ _ (h4 h)⟩
theorem p_mean_spread (h12 : m.fn 12 = spNeed) (h9 : m.fn 9 = spSum) (h6 : m.fn 6 = spR2 (fun a b => a * b) fun _ _ => True) (h5 : m.fn 5 = spR2 (fun a b => a - b) fun _ _ => True) (h : spMean.run ds M Q E) : ws m S_mean_spread E (startR N_mean_spread ds) M { nx := fun _ M' => Q .non M', rt := Q } := by
  obtain ⟨d, rfl, ⟨hp, hs, hz⟩, q1, q2⟩ := h
  simp only [S_mean_spread, N_mean_spread, ws, wx, wl, wi, opd, prt, tst, val, ownv, startR, w1, w2, wII, wint, wb, bt, opt, sq, sqL, sqi, tyOf, isTy, setp, sets, wsl, cturn, fl, cl, List.map_cons, List.map_nil, List.length_cons, List.length_nil, List.nil_append, List.cons_append, List.append_nil, List.replicate, List.getElem?_cons_zero, List.getElem?_cons_succ, List.getElem?_nil, List.set_cons_zero, List.set_cons_succ, List.set_nil, Nat.zero_add, Nat.reduceAdd, Nat.reduceSub, Nat.sub_self, Nat.reduceLT, Nat.lt_add_one, Nat.zero_lt_succ, true_and, and_true, if_true, if_false, Bool.true_eq, Bool.false_eq_true, reduceIte, isNon, List.all_cons, List.all_nil, List.any_cons, List.any_nil, Bool.and_true, Bool.true_and, Bool.or_false, Bool.false_or, Bool.and_false, Bool.false_and, Bool.or_true, Bool.true_or, Bool.not_true, Bool.not_false, Bool.xor_false, Bool.false_xor, Bool.true_xor, Bool.xor_true, List.isEmpty_nil, List.isEmpty_cons, clr, atI_0, atI_1, atI_2, atI_n1, asBls, asInts, dEq_int, dOk_int, dDep_int, Nat.min_self, decide_eq_true_eq, Nat.zero_le, Nat.not_lt_zero, List.cons.injEq, exists_eq_left', exists_and_left, Option.map_some, id_eq, decide_true, decide_false, Bool.not_eq_true, ne_eq, not_true_eq_false, not_false_eq_true, h12, h9, spNeed, hp, hs]
  refine ⟨?_, q2⟩
  rintro ⟨l, rfl, v⟩
  obtain ⟨N, B, S, N0, S0, hN, hB, hS, hf⟩ := (hz l rfl v).ex
  have hlen := v.len8
  simp only [ws, wx, wl, wi, opd, prt, tst, val, ownv, startR, w1, w2, wII, wint, wb, bt, opt, sq, sqL, sqi, tyOf, isTy, setp, sets, wsl, cturn, fl, cl, List.map_cons, List.map_nil, List.length_cons, List.length_nil, List.nil_append, List.cons_append, List.append_nil, List.replicate, List.getElem?_cons_zero, List.getElem?_cons_succ, List.getElem?_nil, List.set_cons_zero, List.set_cons_succ, List.set_nil, Nat.zero_add, Nat.reduceAdd, Nat.reduceSub, Nat.sub_self, Nat.reduceLT, Nat.lt_add_one, Nat.zero_lt_succ, true_and, and_true, if_true, if_false, Bool.true_eq, Bool.false_eq_true, reduceIte, isNon, List.all_cons, List.all_nil, List.any_cons, List.any_nil, Bool.and_true, Bool.true_and, Bool.or_false, Bool.false_or, Bool.and_false, Bool.false_and, Bool.or_true, Bool.true_or, Bool.not_true, Bool.not_false, Bool.xor_false, Bool.false_xor, Bool.true_xor, Bool.xor_true, List.isEmpty_nil, List.isEmpty_cons, clr, atI_0, atI_1, atI_2, atI_n1, asBls, asInts, dEq_int, dOk_int, dDep_int, Nat.min_self, decide_eq_true_eq, Nat.zero_le, Nat.not_lt_zero, List.cons.injEq, exists_eq_left', exists_and_left, Option.map_some, id_eq, decide_true, decide_false, Bool.not_eq_true, ne_eq, not_true_eq_false, not_false_eq_true]
  refine ⟨by simp [line]; omega, cl_map _ (fun p => some (rD (p.1 * p.2))) (fun p hp K hK => ?_) ?_⟩
  · obtain ⟨f1, f2⟩ := hf p hp
    have s1 := f1.sz (k := 4000) N0 (Nat.lt_of_lt_of_le hN (Nat.pow_le_pow_right (by decide) (by decide))) (Nat.lt_of_lt_of_le hB (Nat.pow_le_pow_right (by decide) (by decide)))
    have s2 := f2.sz (k := 4000) S0 (Nat.lt_of_lt_of_le hS (Nat.pow_le_pow_right (by decide) (by decide))) (Nat.lt_of_lt_of_le hS (Nat.pow_le_pow_right (by decide) (by decide)))
    simp only [ws, wx, wl, wi, opd, prt, tst, val, ownv, startR, w1, w2, wII, wint, wb, bt, opt, sq, sqL, sqi, tyOf, isTy, setp, sets, wsl, cturn, fl, cl, List.map_cons, List.map_nil, List.length_cons, List.length_nil, List.nil_append, List.cons_append, List.append_nil, List.replicate, List.getElem?_cons_zero, List.getElem?_cons_succ, List.getElem?_nil, List.set_cons_zero, List.set_cons_succ, List.set_nil, Nat.zero_add, Nat.reduceAdd, Nat.reduceSub, Nat.sub_self, Nat.reduceLT, Nat.lt_add_one, Nat.zero_lt_succ, true_and, and_true, if_true, if_false, Bool.true_eq, Bool.false_eq_true, reduceIte, isNon, List.all_cons, List.all_nil, List.any_cons, List.any_nil, Bool.and_true, Bool.true_and, Bool.or_false, Bool.false_or, Bool.and_false, Bool.false_and, Bool.or_true, Bool.true_or, Bool.not_true, Bool.not_false, Bool.xor_false, Bool.false_xor, Bool.true_xor, Bool.xor_true, List.isEmpty_nil, List.isEmpty_cons, clr, atI_0, atI_1, atI_2, atI_n1, asBls, asInts, dEq_int, dOk_int, dDep_int, Nat.min_self, decide_eq_true_eq, Nat.zero_le, Nat.not_lt_zero, List.cons.injEq, exists_eq_left', exists_and_left, Option.map_some, id_eq, decide_true, decide_false, Bool.not_eq_true, ne_eq, not_true_eq_false, not_false_eq_true, pD, h6, spR2, rD_inj]
    exact ⟨by simp, _, _, ⟨rfl, rfl⟩, ⟨s1, s2⟩, hK⟩
  · rw [fm_some]
    simp only [ws, wx, wl, wi, opd, prt, tst, val, ownv, startR, w1, w2, wII, wint, wb, bt, opt, sq, sqL, sqi, tyOf, isTy, setp, sets, wsl, cturn, fl, cl, List.map_cons, List.map_nil, List.length_cons, List.length_nil, List.nil_append, List.cons_append, List.append_nil, List.replicate, List.getElem?_cons_zero, List.getElem?_cons_succ, List.getElem?_nil, List.set_cons_zero, List.set_cons_succ, List.set_nil, Nat.zero_add, Nat.reduceAdd, Nat.reduceSub, Nat.sub_self, Nat.reduceLT, Nat.lt_add_one, Nat.zero_lt_succ, true_and, and_true, if_true, if_false, Bool.true_eq, Bool.false_eq_true, reduceIte, isNon, List.all_cons, List.all_nil, List.any_cons, List.any_nil, Bool.and_true, Bool.true_and, Bool.or_false, Bool.false_or, Bool.and_false, Bool.false_and, Bool.or_true, Bool.true_or, Bool.not_true, Bool.not_false, Bool.xor_false, Bool.false_xor, Bool.true_xor, Bool.xor_true, List.isEmpty_nil, List.isEmpty_cons, clr, atI_0, atI_1, atI_2, atI_n1, asBls, asInts, dEq_int, dOk_int, dDep_int, Nat.min_self, decide_eq_true_eq, Nat.zero_le, Nat.not_lt_zero, List.cons.injEq, exists_eq_left', exists_and_left, Option.map_some, id_eq, decide_true, decide_false, Bool.not_eq_true, ne_eq, not_true_eq_false, not_false_eq_true, spSum]
    have bNS : N * S ≤ 2 ^ 400 := mul_pow (Nat.le_of_lt hN) (Nat.le_of_lt hS)
    have bBS : B * S ≤ 2 ^ 400 := mul_pow (Nat.le_of_lt hB) (Nat.le_of_lt hS)
    have pNS : 0 < N * S := Nat.mul_pos N0 S0
    have fr1 : ∀ p ∈ l, Fr (N * S) (B * S) (p.1 * p.2) := fun p hp => (hf p hp).1.mul (hf p hp).2
    have frm : Fr (N * S) (8 * (B * S)) (meanOf l) := by
      have := fr_sum (qs := l.map fun p => p.1 * p.2) (N := N * S) (Z := B * S) fun q hq => by
        obtain ⟨p, hp, rfl⟩ := List.mem_map.mp hq
        exact fr1 p hp
      rw [List.length_map] at this
      exact this.mono (Nat.mul_le_mul_right _ hlen)
    have fro : ∀ p ∈ l, Fr (N * S) (9 * (B * S)) (p.1 - meanOf l) := fun p hp => by
      have := (hf p hp).1.scale (k := S)
      exact (this.sub frm).mono (by omega)
    have frs : ∀ p ∈ l, Fr ((N * S) * (N * S)) ((9 * (B * S)) * (9 * (B * S))) ((p.1 - meanOf l) * (p.1 - meanOf l)) := fun p hp => (fro p hp).mul (fro p hp)
    have frt : ∀ p ∈ l, Fr (((N * S) * (N * S)) * S) (((9 * (B * S)) * (9 * (B * S))) * S) ((p.1 - meanOf l) * (p.1 - meanOf l) * p.2) := fun p hp => (frs p hp).mul (hf p hp).2
    have b9 : 9 * (B * S) ≤ 2 ^ 404 := by
      have : 9 * (B * S) ≤ 2 ^ 4 * 2 ^ 400 := Nat.mul_le_mul (by decide) bBS
      rw [← Nat.pow_add] at this; exact this
    have b8 : 8 * (B * S) ≤ 2 ^ 404 := Nat.le_trans (Nat.mul_le_mul_right _ (by decide)) b9
    have bq1 : (N * S) * (N * S) ≤ 2 ^ 800 := mul_pow bNS bNS
    have bq2 : (9 * (B * S)) * (9 * (B * S)) ≤ 2 ^ 808 := mul_pow b9 b9
    have bt1 : ((N * S) * (N * S)) * S ≤ 2 ^ 1000 := mul_pow bq1 (Nat.le_of_lt hS)
    have bt2 : ((9 * (B * S)) * (9 * (B * S))) * S ≤ 2 ^ 1008 := mul_pow bq2 (Nat.le_of_lt hS)
    have big : ∀ {n Z k : Nat}, n ≤ 8 → Z ≤ 2 ^ k → k ≤ 3000 → (n + 1) * (Z + 1) < 2 ^ 4000 := fun {n Z k} h1 h2 h3 => by
      have h4 : Z ≤ 2 ^ 3000 := Nat.le_trans h2 (Nat.pow_le_pow_right (by decide) h3)
      have h5 : (n + 1) * (Z + 1) ≤ 9 * (2 ^ 3000 + 1) := Nat.mul_le_mul (by omega) (by omega)
      exact Nat.lt_of_le_of_lt h5 (by decide +kernel)
    have szp : ∀ p ∈ l, Sz 4000 p.1 := fun p hp => (hf p hp).1.sz N0 (lt_pow hN (by decide)) (lt_pow hB (by decide))
    have szc : ∀ p ∈ l, Sz 4000 p.2 := fun p hp => (hf p hp).2.sz S0 (lt_pow hS (by decide)) (lt_pow hS (by decide))
    have szm : Sz 4000 (meanOf l) := frm.sz pNS (le_pow bNS (by decide)) (le_pow b8 (by decide))
    refine ⟨l.map fun p => p.1 * p.2, by rw [List.map_map]; rfl, N * S, B * S, ⟨pNS, le_pow bNS (by decide), by rw [List.length_map]; exact big hlen bBS (by decide), fun q hq => ?_⟩, ?_⟩
    · obtain ⟨p, hp, rfl⟩ := List.mem_map.mp hq
      exact fr1 p hp
    · refine for_map (m := m) (t := .tp [2, 3]) (b := B_mean_spread_1) (E := E) pD (fun rest r M' => M' = M ∧ ∃ done : List (Rat × Rat), done ++ rest = l ∧ ∃ s2 s3 s5, r = [.val (numD l), .val (rD (meanOf l)), s2, s3, .own (done.map fun p => rD ((p.1 - meanOf l) * (p.1 - meanOf l) * p.2)), s5]) ⟨rfl, [], rfl, _, _, _, rfl⟩ ?_ ?_
      · rintro p rest r M' ⟨rfl, done, hd, s2, s3, s5, rfl⟩
        have hp : p ∈ l := by rw [← hd]; simp
        have hdl : done.length ≤ 8 := by
          have := congrArg List.length hd
          rw [List.length_append] at this
          omega
        have so := (fro p hp).sz (k := 4000) pNS (le_pow bNS (by decide)) (le_pow b9 (by decide))
        have sq := (frs p hp).sz (k := 4000) (Nat.mul_pos pNS pNS) (le_pow bq1 (by decide)) (le_pow bq2 (by decide))
        simp only [B_mean_spread_1, ws, wx, wl, wi, opd, prt, tst, val, ownv, startR, w1, w2, wII, wint, wb, bt, opt, sq, sqL, sqi, tyOf, isTy, setp, sets, wsl, cturn, fl, cl, List.map_cons, List.map_nil, List.length_cons, List.length_nil, List.nil_append, List.cons_append, List.append_nil, List.replicate, List.getElem?_cons_zero, List.getElem?_cons_succ, List.getElem?_nil, List.set_cons_zero, List.set_cons_succ, List.set_nil, Nat.zero_add, Nat.reduceAdd, Nat.reduceSub, Nat.sub_self, Nat.reduceLT, Nat.lt_add_one, Nat.zero_lt_succ, true_and, and_true, if_true, if_false, Bool.true_eq, Bool.false_eq_true, reduceIte, isNon, List.all_cons, List.all_nil, List.any_cons, List.any_nil, Bool.and_true, Bool.true_and, Bool.or_false, Bool.false_or, Bool.and_false, Bool.false_and, Bool.or_true, Bool.true_or, Bool.not_true, Bool.not_false, Bool.xor_false, Bool.false_xor, Bool.true_xor, Bool.xor_true, List.isEmpty_nil, List.isEmpty_cons, clr, atI_0, atI_1, atI_2, atI_n1, asBls, asInts, dEq_int, dOk_int, dDep_int, Nat.min_self, decide_eq_true_eq, Nat.zero_le, Nat.not_lt_zero, List.cons.injEq, exists_eq_left', exists_and_left, Option.map_some, id_eq, decide_true, decide_false, Bool.not_eq_true, ne_eq, not_true_eq_false, not_false_eq_true, pD, h5, h6, spR2, rD_inj]
        refine ⟨by simp, _, _, ⟨rfl, rfl⟩, ⟨szp p hp, szm⟩, _, _, ⟨rfl, rfl⟩, ⟨so, so⟩, _, _, ⟨rfl, rfl⟩, ⟨sq, szc p hp⟩, by rw [List.length_map]; unfold line; omega, done ++ [p], by rw [← hd]; simp, by rw [List.map_append]; rfl, _, rfl⟩
      · rintro r M' ⟨rfl, done, hd, s2, s3, s5, rfl⟩
        rw [List.append_nil] at hd
        subst hd
        refine ⟨done.map fun p : Rat × Rat => (p.1 - meanOf done) * (p.1 - meanOf done) * p.2, by rw [List.map_map]; rfl, _, _, ⟨Nat.mul_pos (Nat.mul_pos pNS pNS) S0, le_pow bt1 (by decide), by rw [List.length_map]; exact big hlen bt2 (by decide), fun q hq => ?_⟩, by decide, q1 done rfl v⟩
        obtain ⟨p, hp, rfl⟩ := List.mem_map.mp hq
        exact frt p hp
end
end K75

set_option Elab.async false
set_option linter.all false
set_option maxRecDepth 100000
set_option maxHeartbeats 4000000
set_option exponentiation.threshold 100000
/-! plain laws: middles, chances of spreads -/
namespace K75
open PySem PySem.Spec PyProof.Rows L2 PV

def midsFrom : Rat → List (Rat × Rat) → List Rat
  | _, [] => []
  | b, p :: l => if ¬ b + p.2 < 1 / 2 ∧ ¬ 1 - b < 1 / 2 then p.1 :: midsFrom (b + p.2) l else midsFrom (b + p.2) l
def mids (l : List (Rat × Rat)) : List Rat := midsFrom 0 l
theorem mids_ne : ∀ {l : List (Rat × Rat)} {b : Rat}, b < 1 / 2 → b + (l.map (·.2)).sum = 1 → midsFrom b l ≠ []
  | [], b, h, e => by
    simp only [List.map_nil, List.sum_nil] at e
    grind
  | p :: l, b, h, e => by
    unfold midsFrom
    split
    · simp
    · rename_i hn
      refine mids_ne ?_ ?_
      · by_cases hc : b + p.2 < 1 / 2
        · exact hc
        · exact absurd ⟨hc, by grind⟩ hn
      · simp only [List.map_cons, List.sum_cons] at e
        grind
theorem sz_divInt {n d : Int} {k : Nat} (hn : n.natAbs < 2 ^ k) (hd : d.natAbs < 2 ^ k) (h0 : d ≠ 0) : Sz k (Rat.divInt n d) := by
  refine ⟨?_, ?_⟩
  · rw [Rat.num_divInt]
    refine Nat.lt_of_le_of_lt (Nat.le_trans (Int.natAbs_ediv_le_natAbs _ _) ?_) hn
    rw [Int.natAbs_mul]
    have : d.sign.natAbs ≤ 1 := by
      rw [Int.natAbs_sign]
      split <;> omega
    calc d.sign.natAbs * n.natAbs ≤ 1 * n.natAbs := Nat.mul_le_mul_right _ this
      _ = n.natAbs := Nat.one_mul _
  · rw [Rat.den_divInt, if_neg h0]
    exact Nat.lt_of_le_of_lt (Nat.div_le_self _ _) hd
theorem pow2 {a b k l : Nat} (h : a < 2 ^ k) (h' : b < 2 ^ l) : a * b < 2 ^ (k + l) := by
  rw [Nat.pow_add]
  exact Nat.mul_lt_mul_of_lt_of_lt h h'
theorem Sz.mul {k l : Nat} {a b : Rat} (ha : Sz k a) (hb : Sz l b) : Sz (k + l) (a * b) := by
  rw [← mul_q]
  refine sz_divInt ?_ ?_ (den00 a b)
  · rw [Int.natAbs_mul]; exact pow2 ha.1 hb.1
  · rw [Int.natAbs_mul]; exact pow2 ha.2 hb.2
theorem Sz.add {k l : Nat} {a b : Rat} (ha : Sz k a) (hb : Sz l b) : Sz (k + l + 1) (a + b) := by
  rw [← add_q]
  refine sz_divInt ?_ ?_ (den00 a b)
  · have h1 : (a.num * (b.den : Int)).natAbs < 2 ^ (k + l) := by rw [Int.natAbs_mul]; exact pow2 ha.1 hb.2
    have h2 : (b.num * (a.den : Int)).natAbs < 2 ^ (k + l) := by rw [Int.natAbs_mul, Nat.add_comm k l]; exact pow2 hb.1 ha.2
    rw [Nat.pow_succ]
    omega
  · have h1 : ((a.den : Int) * (b.den : Int)).natAbs < 2 ^ (k + l) := by rw [Int.natAbs_mul]; exact pow2 ha.2 hb.2
    rw [Nat.pow_succ]
    omega
theorem Sz.sub {k l : Nat} {a b : Rat} (ha : Sz k a) (hb : Sz l b) : Sz (k + l + 1) (a - b) := by
  rw [← sub_q]
  refine sz_divInt ?_ ?_ (den00 a b)
  · have h1 : (a.num * (b.den : Int)).natAbs < 2 ^ (k + l) := by rw [Int.natAbs_mul]; exact pow2 ha.1 hb.2
    have h2 : (b.num * (a.den : Int)).natAbs < 2 ^ (k + l) := by rw [Int.natAbs_mul, Nat.add_comm k l]; exact pow2 hb.1 ha.2
    rw [Nat.pow_succ]
    omega
  · have h1 : ((a.den : Int) * (b.den : Int)).natAbs < 2 ^ (k + l) := by rw [Int.natAbs_mul]; exact pow2 ha.2 hb.2
    rw [Nat.pow_succ]
    omega
theorem num_ne {q : Rat} : q.num ≠ 0 ↔ q ≠ 0 := by
  rw [ne_eq, Rat.num_eq_zero]
theorem Sz.div {k l : Nat} {a b : Rat} (ha : Sz k a) (hb : Sz l b) (h0 : b ≠ 0) : Sz (k + l) (a / b) := by
  rw [← div_q]
  refine sz_divInt ?_ ?_ (Int.mul_ne_zero (den0 a) (num_ne.mpr h0))
  · rw [Int.natAbs_mul]; exact pow2 ha.1 hb.2
  · rw [Int.natAbs_mul]; exact pow2 ha.2 hb.1
theorem sz1 : Sz 1 1 := ⟨by decide, by decide⟩
theorem sz0 : Sz 1 0 := ⟨by decide, by decide⟩
def okS (d : D) : Prop := ∃ v, d = rD v ∧ 0 ≤ v
def okG (d : D) : Prop := ∃ v, d = rD v ∧ 0 < v
def spNeedS : PV.Spec where
  run ds M Q E := ∃ s g, ds = [s, g] ∧ (pl s = true ∧ pl g = true) ∧ (okS s → okG g → Q .non M) ∧ (¬ okS s → E ⟨2, []⟩ M) ∧ (okS s → ¬ okG g → E ⟨3, []⟩ M)
  mono := fun ⟨s, g, h1, h2, h3, h4, h5⟩ q e => ⟨s, g, h1, h2, fun a b => q _ _ (h3 a b), fun a => e _ _ (h4 a), fun a b => e _ _ (h5 a b)⟩
def one1 (v g : Rat) : Rat := v / (v + g * g)
def spSide : PV.Spec where
  run ds M Q E := ∃ v g : Rat, ds = [rD v, rD g] ∧ (Sz 600 v ∧ Sz 600 g ∧ 0 ≤ v ∧ 0 < g) ∧ Q (rD (one1 v g)) M
  mono := fun ⟨v, g, h1, h2, h3⟩ q _ => ⟨v, g, h1, h2, q _ _ h3⟩
/-- of a spread and a gap -/
def spOn (f : Rat → Rat → D) : PV.Spec where
  run ds M Q E := ∃ s g, ds = [s, g] ∧ (pl s = true ∧ pl g = true ∧ ∀ v, (s = rD v ∨ g = rD v) → Sz 600 v) ∧ (∀ v x, s = rD v → g = rD x → 0 ≤ v → 0 < x → Q (f v x) M) ∧ (¬ okS s → E ⟨2, []⟩ M) ∧ (okS s → ¬ okG g → E ⟨3, []⟩ M)
  mono := fun ⟨s, g, h1, h2, h3, h4, h5⟩ q e => ⟨s, g, h1, h2, fun v x a b c d => q _ _ (h3 v x a b c d), fun a => e _ _ (h4 a), fun a b => e _ _ (h5 a b)⟩
def spLeast : PV.Spec where
  run ds M Q E := ∃ a b : Rat, ds = [.lst [rD a, rD b]] ∧ (Sz 4000 a ∧ Sz 4000 b) ∧ Q (rD (if b < a then b else a)) M
  mono := fun ⟨v, g, h1, h2, h3⟩ q _ => ⟨v, g, h1, h2, q _ _ h3⟩
theorem g2_pos {v g : Rat} (hv : 0 ≤ v) (hg : 0 < g) : 0 < v + g * g := by
  have : 0 < g * g := Rat.mul_pos hg hg
  grind
section
variable {m : Sm} {ds : List D} {M : Ms} {Q : D → Ms → Prop} {E : Ex}
theorem p_least_of (h8 : m.fn 8 = spLess) (h : spLeast.run ds M Q E) : ws m S_least_of E (startR N_least_of ds) M { nx := fun _ M' => Q .non M', rt := Q } := by
  obtain ⟨a, b, rfl, ⟨ha, hb⟩, q⟩ := h
  simp only [S_least_of, N_least_of, B_least_of_1, ws, wx, wl, wi, opd, prt, tst, val, ownv, startR, w1, w2, wII, wint, wb, bt, opt, sq, sqL, sqi, tyOf, isTy, setp, sets, wsl, cturn, fl, cl, List.map_cons, List.map_nil, List.length_cons, List.length_nil, List.nil_append, List.cons_append, List.append_nil, List.replicate, List.getElem?_cons_zero, List.getElem?_cons_succ, List.getElem?_nil, List.set_cons_zero, List.set_cons_succ, List.set_nil, Nat.zero_add, Nat.reduceAdd, Nat.reduceSub, Nat.sub_self, Nat.reduceLT, Nat.lt_add_one, Nat.zero_lt_succ, true_and, and_true, if_true, if_false, Bool.true_eq, Bool.false_eq_true, reduceIte, isNon, List.all_cons, List.all_nil, List.any_cons, List.any_nil, Bool.and_true, Bool.true_and, Bool.or_false, Bool.false_or, Bool.and_false, Bool.false_and, Bool.or_true, Bool.true_or, Bool.not_true, Bool.not_false, Bool.xor_false, Bool.false_xor, Bool.true_xor, Bool.xor_true, List.isEmpty_nil, List.isEmpty_cons, clr, atI_0, atI_1, atI_2, atI_n1, asBls, asInts, dEq_int, dOk_int, dDep_int, Nat.min_self, decide_eq_true_eq, Nat.zero_le, Nat.not_lt_zero, List.cons.injEq, exists_eq_left', exists_and_left, Option.map_some, id_eq, decide_true, decide_false, Bool.not_eq_true, ne_eq, not_true_eq_false, not_false_eq_true, cut_1, List.drop_succ_cons, List.drop_zero, h8, spLess, rD_inj]
  refine ⟨_, _, ⟨rfl, rfl⟩, ⟨hb, ha⟩, ?_⟩
  by_cases h : b < a
  · simp only [if_pos h] at q ⊢
    exact q
  · simp only [if_neg h] at q ⊢
    exact q
theorem p_need_spread (h1 : m.fn 1 = spB isRat) (hk2 : m.kept 2 = false) (hk3 : m.kept 3 = false) (h : spNeedS.run ds M Q E) : ws m S_need_spread E (startR N_need_spread ds) M { nx := fun _ M' => Q .non M', rt := Q } := by
  obtain ⟨s, g, rfl, ⟨hs, hg⟩, q1, q2, q3⟩ := h
  simp only [S_need_spread, N_need_spread, ws, wx, wl, wi, opd, prt, tst, val, ownv, startR, w1, w2, wII, wint, wb, bt, opt, sq, sqL, sqi, tyOf, isTy, setp, sets, wsl, cturn, fl, cl, List.map_cons, List.map_nil, List.length_cons, List.length_nil, List.nil_append, List.cons_append, List.append_nil, List.replicate, List.getElem?_cons_zero, List.getElem?_cons_succ, List.getElem?_nil, List.set_cons_zero, List.set_cons_succ, List.set_nil, Nat.zero_add, Nat.reduceAdd, Nat.reduceSub, Nat.sub_self, Nat.reduceLT, Nat.lt_add_one, Nat.zero_lt_succ, true_and, and_true, if_true, if_false, Bool.true_eq, Bool.false_eq_true, reduceIte, isNon, List.all_cons, List.all_nil, List.any_cons, List.any_nil, Bool.and_true, Bool.true_and, Bool.or_false, Bool.false_or, Bool.and_false, Bool.false_and, Bool.or_true, Bool.true_or, Bool.not_true, Bool.not_false, Bool.xor_false, Bool.false_xor, Bool.true_xor, Bool.xor_true, List.isEmpty_nil, List.isEmpty_cons, clr, atI_0, atI_1, atI_2, atI_n1, asBls, asInts, dEq_int, dOk_int, dDep_int, Nat.min_self, decide_eq_true_eq, Nat.zero_le, Nat.not_lt_zero, List.cons.injEq, exists_eq_left', exists_and_left, Option.map_some, id_eq, decide_true, decide_false, Bool.not_eq_true, ne_eq, not_true_eq_false, not_false_eq_true, h1, spB, hs, hg, hk2, hk3]
  cases r : isRat s with
  | false =>
    simp only [ws, wx, wl, wi, opd, prt, tst, val, ownv, startR, w1, w2, wII, wint, wb, bt, opt, sq, sqL, sqi, tyOf, isTy, setp, sets, wsl, cturn, fl, cl, List.map_cons, List.map_nil, List.length_cons, List.length_nil, List.nil_append, List.cons_append, List.append_nil, List.replicate, List.getElem?_cons_zero, List.getElem?_cons_succ, List.getElem?_nil, List.set_cons_zero, List.set_cons_succ, List.set_nil, Nat.zero_add, Nat.reduceAdd, Nat.reduceSub, Nat.sub_self, Nat.reduceLT, Nat.lt_add_one, Nat.zero_lt_succ, true_and, and_true, if_true, if_false, Bool.true_eq, Bool.false_eq_true, reduceIte, isNon, List.all_cons, List.all_nil, List.any_cons, List.any_nil, Bool.and_true, Bool.true_and, Bool.or_false, Bool.false_or, Bool.and_false, Bool.false_and, Bool.or_true, Bool.true_or, Bool.not_true, Bool.not_false, Bool.xor_false, Bool.false_xor, Bool.true_xor, Bool.xor_true, List.isEmpty_nil, List.isEmpty_cons, clr, atI_0, atI_1, atI_2, atI_n1, asBls, asInts, dEq_int, dOk_int, dDep_int, Nat.min_self, decide_eq_true_eq, Nat.zero_le, Nat.not_lt_zero, List.cons.injEq, exists_eq_left', exists_and_left, Option.map_some, id_eq, decide_true, decide_false, Bool.not_eq_true, ne_eq, not_true_eq_false, not_false_eq_true]
    refine q2 ?_
    rintro ⟨v, rfl, _⟩
    rw [isRat_rD] at r; cases r
  | true =>
    obtain ⟨v, rfl⟩ := rat_rD r
    simp only [rD, ws, wx, wl, wi, opd, prt, tst, val, ownv, startR, w1, w2, wII, wint, wb, bt, opt, sq, sqL, sqi, tyOf, isTy, setp, sets, wsl, cturn, fl, cl, List.map_cons, List.map_nil, List.length_cons, List.length_nil, List.nil_append, List.cons_append, List.append_nil, List.replicate, List.getElem?_cons_zero, List.getElem?_cons_succ, List.getElem?_nil, List.set_cons_zero, List.set_cons_succ, List.set_nil, Nat.zero_add, Nat.reduceAdd, Nat.reduceSub, Nat.sub_self, Nat.reduceLT, Nat.lt_add_one, Nat.zero_lt_succ, true_and, and_true, if_true, if_false, Bool.true_eq, Bool.false_eq_true, reduceIte, isNon, List.all_cons, List.all_nil, List.any_cons, List.any_nil, Bool.and_true, Bool.true_and, Bool.or_false, Bool.false_or, Bool.and_false, Bool.false_and, Bool.or_true, Bool.true_or, Bool.not_true, Bool.not_false, Bool.xor_false, Bool.false_xor, Bool.true_xor, Bool.xor_true, List.isEmpty_nil, List.isEmpty_cons, clr, atI_0, atI_1, atI_2, atI_n1, asBls, asInts, dEq_int, dOk_int, dDep_int, Nat.min_self, decide_eq_true_eq, Nat.zero_le, Nat.not_lt_zero, List.cons.injEq, exists_eq_left', exists_and_left, Option.map_some, id_eq, decide_true, decide_false, Bool.not_eq_true, ne_eq, not_true_eq_false, not_false_eq_true]
    by_cases hv : v.num < 0
    · simp only [if_pos hv]
      refine q2 ?_
      rintro ⟨u, e, hu⟩
      have := rD_inj.mp e
      subst this
      have := num_nonneg.mpr hu
      omega
    · simp only [if_neg hv]
      have os : okS (rD v) := ⟨v, rfl, num_nonneg.mp (by omega)⟩
      cases r2 : isRat g with
      | false =>
        simp only [ws, wx, wl, wi, opd, prt, tst, val, ownv, startR, w1, w2, wII, wint, wb, bt, opt, sq, sqL, sqi, tyOf, isTy, setp, sets, wsl, cturn, fl, cl, List.map_cons, List.map_nil, List.length_cons, List.length_nil, List.nil_append, List.cons_append, List.append_nil, List.replicate, List.getElem?_cons_zero, List.getElem?_cons_succ, List.getElem?_nil, List.set_cons_zero, List.set_cons_succ, List.set_nil, Nat.zero_add, Nat.reduceAdd, Nat.reduceSub, Nat.sub_self, Nat.reduceLT, Nat.lt_add_one, Nat.zero_lt_succ, true_and, and_true, if_true, if_false, Bool.true_eq, Bool.false_eq_true, reduceIte, isNon, List.all_cons, List.all_nil, List.any_cons, List.any_nil, Bool.and_true, Bool.true_and, Bool.or_false, Bool.false_or, Bool.and_false, Bool.false_and, Bool.or_true, Bool.true_or, Bool.not_true, Bool.not_false, Bool.xor_false, Bool.false_xor, Bool.true_xor, Bool.xor_true, List.isEmpty_nil, List.isEmpty_cons, clr, atI_0, atI_1, atI_2, atI_n1, asBls, asInts, dEq_int, dOk_int, dDep_int, Nat.min_self, decide_eq_true_eq, Nat.zero_le, Nat.not_lt_zero, List.cons.injEq, exists_eq_left', exists_and_left, Option.map_some, id_eq, decide_true, decide_false, Bool.not_eq_true, ne_eq, not_true_eq_false, not_false_eq_true]
        refine q3 os ?_
        rintro ⟨v, rfl, _⟩
        rw [isRat_rD] at r2; cases r2
      | true =>
        obtain ⟨x, rfl⟩ := rat_rD r2
        simp only [rD, ws, wx, wl, wi, opd, prt, tst, val, ownv, startR, w1, w2, wII, wint, wb, bt, opt, sq, sqL, sqi, tyOf, isTy, setp, sets, wsl, cturn, fl, cl, List.map_cons, List.map_nil, List.length_cons, List.length_nil, List.nil_append, List.cons_append, List.append_nil, List.replicate, List.getElem?_cons_zero, List.getElem?_cons_succ, List.getElem?_nil, List.set_cons_zero, List.set_cons_succ, List.set_nil, Nat.zero_add, Nat.reduceAdd, Nat.reduceSub, Nat.sub_self, Nat.reduceLT, Nat.lt_add_one, Nat.zero_lt_succ, true_and, and_true, if_true, if_false, Bool.true_eq, Bool.false_eq_true, reduceIte, isNon, List.all_cons, List.all_nil, List.any_cons, List.any_nil, Bool.and_true, Bool.true_and, Bool.or_false, Bool.false_or, Bool.and_false, Bool.false_and, Bool.or_true, Bool.true_or, Bool.not_true, Bool.not_false, Bool.xor_false, Bool.false_xor, Bool.true_xor, Bool.xor_true, List.isEmpty_nil, List.isEmpty_cons, clr, atI_0, atI_1, atI_2, atI_n1, asBls, asInts, dEq_int, dOk_int, dDep_int, Nat.min_self, decide_eq_true_eq, Nat.zero_le, Nat.not_lt_zero, List.cons.injEq, exists_eq_left', exists_and_left, Option.map_some, id_eq, decide_true, decide_false, Bool.not_eq_true, ne_eq, not_true_eq_false, not_false_eq_true]
        by_cases hx : x.num ≤ 0
        · simp only [if_pos hx]
          refine q3 os ?_
          rintro ⟨v, e, hv⟩
          have := rD_inj.mp e
          subst this
          have := num_pos.mpr hv
          omega
        · simp only [if_neg hx]
          exact q1 os ⟨x, rfl, num_pos.mp (by omega)⟩
theorem p_one_side (h7 : m.fn 7 = spR2 (fun a b => a / b) fun _ b => b.num ≠ 0) (h4 : m.fn 4 = spR2 (fun a b => a + b) fun _ _ => True) (h6 : m.fn 6 = spR2 (fun a b => a * b) fun _ _ => True) (h : spSide.run ds M Q E) : ws m S_one_side E (startR N_one_side ds) M { nx := fun _ M' => Q .non M', rt := Q } := by
  obtain ⟨v, g, rfl, ⟨s1, s2, hv, hg⟩, q⟩ := h
  have gg := s2.mul s2
  have vg := s1.add gg
  simp only [S_one_side, N_one_side, ws, wx, wl, wi, opd, prt, tst, val, ownv, startR, w1, w2, wII, wint, wb, bt, opt, sq, sqL, sqi, tyOf, isTy, setp, sets, wsl, cturn, fl, cl, List.map_cons, List.map_nil, List.length_cons, List.length_nil, List.nil_append, List.cons_append, List.append_nil, List.replicate, List.getElem?_cons_zero, List.getElem?_cons_succ, List.getElem?_nil, List.set_cons_zero, List.set_cons_succ, List.set_nil, Nat.zero_add, Nat.reduceAdd, Nat.reduceSub, Nat.sub_self, Nat.reduceLT, Nat.lt_add_one, Nat.zero_lt_succ, true_and, and_true, if_true, if_false, Bool.true_eq, Bool.false_eq_true, reduceIte, isNon, List.all_cons, List.all_nil, List.any_cons, List.any_nil, Bool.and_true, Bool.true_and, Bool.or_false, Bool.false_or, Bool.and_false, Bool.false_and, Bool.or_true, Bool.true_or, Bool.not_true, Bool.not_false, Bool.xor_false, Bool.false_xor, Bool.true_xor, Bool.xor_true, List.isEmpty_nil, List.isEmpty_cons, clr, atI_0, atI_1, atI_2, atI_n1, asBls, asInts, dEq_int, dOk_int, dDep_int, Nat.min_self, decide_eq_true_eq, Nat.zero_le, Nat.not_lt_zero, List.cons.injEq, exists_eq_left', exists_and_left, Option.map_some, id_eq, decide_true, decide_false, Bool.not_eq_true, ne_eq, not_true_eq_false, not_false_eq_true, h7, h4, h6, spR2, rD_inj]
  exact ⟨_, _, ⟨rfl, rfl⟩, ⟨s2.mono (by decide), s2.mono (by decide)⟩, _, _, ⟨rfl, rfl⟩, ⟨s1.mono (by decide), gg.mono (by decide)⟩, _, _, ⟨rfl, rfl⟩, ⟨s1.mono (by decide), vg.mono (by decide), num_ne.mpr (by have := g2_pos hv hg; grind)⟩, q⟩
theorem p_spread_chance (h15 : m.fn 15 = spNeedS) (h16 : m.fn 16 = spSide) (h : (spOn fun v g => rD (one1 v g)).run ds M Q E) : ws m S_spread_chance E (startR N_spread_chance ds) M { nx := fun _ M' => Q .non M', rt := Q } := by
  obtain ⟨s, g, rfl, ⟨hs, hg, hz⟩, q1, q2, q3⟩ := h
  simp only [S_spread_chance, N_spread_chance, ws, wx, wl, wi, opd, prt, tst, val, ownv, startR, w1, w2, wII, wint, wb, bt, opt, sq, sqL, sqi, tyOf, isTy, setp, sets, wsl, cturn, fl, cl, List.map_cons, List.map_nil, List.length_cons, List.length_nil, List.nil_append, List.cons_append, List.append_nil, List.replicate, List.getElem?_cons_zero, List.getElem?_cons_succ, List.getElem?_nil, List.set_cons_zero, List.set_cons_succ, List.set_nil, Nat.zero_add, Nat.reduceAdd, Nat.reduceSub, Nat.sub_self, Nat.reduceLT, Nat.lt_add_one, Nat.zero_lt_succ, true_and, and_true, if_true, if_false, Bool.true_eq, Bool.false_eq_true, reduceIte, isNon, List.all_cons, List.all_nil, List.any_cons, List.any_nil, Bool.and_true, Bool.true_and, Bool.or_false, Bool.false_or, Bool.and_false, Bool.false_and, Bool.or_true, Bool.true_or, Bool.not_true, Bool.not_false, Bool.xor_false, Bool.false_xor, Bool.true_xor, Bool.xor_true, List.isEmpty_nil, List.isEmpty_cons, clr, atI_0, atI_1, atI_2, atI_n1, asBls, asInts, dEq_int, dOk_int, dDep_int, Nat.min_self, decide_eq_true_eq, Nat.zero_le, Nat.not_lt_zero, List.cons.injEq, exists_eq_left', exists_and_left, Option.map_some, id_eq, decide_true, decide_false, Bool.not_eq_true, ne_eq, not_true_eq_false, not_false_eq_true, h15, h16, spNeedS, spSide]
  refine ⟨s, g, ⟨rfl, rfl⟩, ⟨hs, hg⟩, ?_, q2, q3⟩
  rintro ⟨v, rfl, hv⟩ ⟨x, rfl, hx⟩
  exact ⟨v, x, ⟨rfl, rfl⟩, ⟨hz v (.inl rfl), hz x (.inr rfl), hv, hx⟩, q1 v x rfl rfl hv hx⟩
def both1 (v g : Rat) : Rat := if v / (g * g) < 1 then v / (g * g) else 1
theorem p_both_chance (h15 : m.fn 15 = spNeedS) (h10 : m.fn 10 = spLeast) (h7 : m.fn 7 = spR2 (fun a b => a / b) fun _ b => b.num ≠ 0) (h6 : m.fn 6 = spR2 (fun a b => a * b) fun _ _ => True) (g1 : m.glo 1 = rD 1) (h : (spOn fun v g => rD (both1 v g)).run ds M Q E) : ws m S_both_chance E (startR N_both_chance ds) M { nx := fun _ M' => Q .non M', rt := Q } := by
  obtain ⟨s, g, rfl, ⟨hs, hg, hz⟩, q1, q2, q3⟩ := h
  simp only [S_both_chance, N_both_chance, ws, wx, wl, wi, opd, prt, tst, val, ownv, startR, w1, w2, wII, wint, wb, bt, opt, sq, sqL, sqi, tyOf, isTy, setp, sets, wsl, cturn, fl, cl, List.map_cons, List.map_nil, List.length_cons, List.length_nil, List.nil_append, List.cons_append, List.append_nil, List.replicate, List.getElem?_cons_zero, List.getElem?_cons_succ, List.getElem?_nil, List.set_cons_zero, List.set_cons_succ, List.set_nil, Nat.zero_add, Nat.reduceAdd, Nat.reduceSub, Nat.sub_self, Nat.reduceLT, Nat.lt_add_one, Nat.zero_lt_succ, true_and, and_true, if_true, if_false, Bool.true_eq, Bool.false_eq_true, reduceIte, isNon, List.all_cons, List.all_nil, List.any_cons, List.any_nil, Bool.and_true, Bool.true_and, Bool.or_false, Bool.false_or, Bool.and_false, Bool.false_and, Bool.or_true, Bool.true_or, Bool.not_true, Bool.not_false, Bool.xor_false, Bool.false_xor, Bool.true_xor, Bool.xor_true, List.isEmpty_nil, List.isEmpty_cons, clr, atI_0, atI_1, atI_2, atI_n1, asBls, asInts, dEq_int, dOk_int, dDep_int, Nat.min_self, decide_eq_true_eq, Nat.zero_le, Nat.not_lt_zero, List.cons.injEq, exists_eq_left', exists_and_left, Option.map_some, id_eq, decide_true, decide_false, Bool.not_eq_true, ne_eq, not_true_eq_false, not_false_eq_true, h15, h10, h7, h6, g1, spNeedS, spLeast, spR2]
  refine ⟨s, g, ⟨rfl, rfl⟩, ⟨hs, hg⟩, ?_, q2, q3⟩
  rintro ⟨v, rfl, hv⟩ ⟨x, rfl, hx⟩
  have s1 := hz v (.inl rfl)
  have s2 := hz x (.inr rfl)
  have gg := s2.mul s2
  have g0 : x * x ≠ 0 := by have := Rat.mul_pos hx hx; grind
  have vd := s1.div gg g0
  refine ⟨x, x, ⟨rfl, rfl⟩, ⟨s2.mono (by decide), s2.mono (by decide)⟩, v, x * x, ⟨rfl, rfl⟩, ⟨s1.mono (by decide), gg.mono (by decide), num_ne.mpr g0⟩, by decide, 1, v / (x * x), rfl, ⟨sz1.mono (by decide), vd.mono (by decide)⟩, ?_⟩
  exact q1 v x rfl rfl hv hx
/-- the numbers of a spread -/
def toldOf (v g : Rat) : List (Rat × Rat) := if v = 0 then [(0, 1)] else [(0 - v / g, 1 - one1 v g), (g, one1 v g)]
theorem p_spread_numbers (h15 : m.fn 15 = spNeedS) (h16 : m.fn 16 = spSide) (h7 : m.fn 7 = spR2 (fun a b => a / b) fun _ b => b.num ≠ 0) (h5 : m.fn 5 = spR2 (fun a b => a - b) fun _ _ => True) (g0 : m.glo 0 = rD 0) (g1 : m.glo 1 = rD 1) (h : (spOn fun v g => numD (toldOf v g)).run ds M Q E) :
    ws m S_spread_numbers E (startR N_spread_numbers ds) M { nx := fun _ M' => Q .non M', rt := Q } := by
  obtain ⟨s, g, rfl, ⟨hs, hg, hz⟩, q1, q2, q3⟩ := h
  simp only [S_spread_numbers, N_spread_numbers, ws, wx, wl, wi, opd, prt, tst, val, ownv, startR, w1, w2, wII, wint, wb, bt, opt, sq, sqL, sqi, tyOf, isTy, setp, sets, wsl, cturn, fl, cl, List.map_cons, List.map_nil, List.length_cons, List.length_nil, List.nil_append, List.cons_append, List.append_nil, List.replicate, List.getElem?_cons_zero, List.getElem?_cons_succ, List.getElem?_nil, List.set_cons_zero, List.set_cons_succ, List.set_nil, Nat.zero_add, Nat.reduceAdd, Nat.reduceSub, Nat.sub_self, Nat.reduceLT, Nat.lt_add_one, Nat.zero_lt_succ, true_and, and_true, if_true, if_false, Bool.true_eq, Bool.false_eq_true, reduceIte, isNon, List.all_cons, List.all_nil, List.any_cons, List.any_nil, Bool.and_true, Bool.true_and, Bool.or_false, Bool.false_or, Bool.and_false, Bool.false_and, Bool.or_true, Bool.true_or, Bool.not_true, Bool.not_false, Bool.xor_false, Bool.false_xor, Bool.true_xor, Bool.xor_true, List.isEmpty_nil, List.isEmpty_cons, clr, atI_0, atI_1, atI_2, atI_n1, asBls, asInts, dEq_int, dOk_int, dDep_int, Nat.min_self, decide_eq_true_eq, Nat.zero_le, Nat.not_lt_zero, List.cons.injEq, exists_eq_left', exists_and_left, Option.map_some, id_eq, decide_true, decide_false, Bool.not_eq_true, ne_eq, not_true_eq_false, not_false_eq_true, h15, h16, h7, h5, g0, g1, spNeedS, spSide, spR2]
  refine ⟨s, g, ⟨rfl, rfl⟩, ⟨hs, hg⟩, ?_, q2, q3⟩
  rintro ⟨v, rfl, hv⟩ ⟨x, rfl, hx⟩
  have s1 := hz v (.inl rfl)
  have s2 := hz x (.inr rfl)
  have gg := s2.mul s2
  have vg := s1.add gg
  have p0 := g2_pos hv hx
  have so := s1.div vg (by grind)
  have sv := s1.div s2 (by grind)
  have q : Q (numD (toldOf v x)) M := q1 v x rfl rfl hv hx
  refine ⟨rfl, rfl, by rw [dDep_rD, dDep_rD]; decide, ?_⟩
  rw [dEq_rD]
  by_cases h0 : v = 0
  · subst h0
    simp only [decide_true, if_true]
    exact ⟨by decide, by decide, q⟩
  · have q : Q (numD [(0 - v / x, 1 - one1 v x), (x, one1 v x)]) M := by
      unfold toldOf at q
      rw [if_neg h0] at q; exact q
    simp only [decide_eq_false h0, ws, wx, wl, wi, opd, prt, tst, val, ownv, startR, w1, w2, wII, wint, wb, bt, opt, sq, sqL, sqi, tyOf, isTy, setp, sets, wsl, cturn, fl, cl, List.map_cons, List.map_nil, List.length_cons, List.length_nil, List.nil_append, List.cons_append, List.append_nil, List.replicate, List.getElem?_cons_zero, List.getElem?_cons_succ, List.getElem?_nil, List.set_cons_zero, List.set_cons_succ, List.set_nil, Nat.zero_add, Nat.reduceAdd, Nat.reduceSub, Nat.sub_self, Nat.reduceLT, Nat.lt_add_one, Nat.zero_lt_succ, true_and, and_true, if_true, if_false, Bool.true_eq, Bool.false_eq_true, reduceIte, isNon, List.all_cons, List.all_nil, List.any_cons, List.any_nil, Bool.and_true, Bool.true_and, Bool.or_false, Bool.false_or, Bool.and_false, Bool.false_and, Bool.or_true, Bool.true_or, Bool.not_true, Bool.not_false, Bool.xor_false, Bool.false_xor, Bool.true_xor, Bool.xor_true, List.isEmpty_nil, List.isEmpty_cons, clr, atI_0, atI_1, atI_2, atI_n1, asBls, asInts, dEq_int, dOk_int, dDep_int, Nat.min_self, decide_eq_true_eq, Nat.zero_le, Nat.not_lt_zero, List.cons.injEq, exists_eq_left', exists_and_left, Option.map_some, id_eq, decide_true, decide_false, Bool.not_eq_true, ne_eq, not_true_eq_false, not_false_eq_true]
    refine ⟨v, x, ⟨rfl, rfl⟩, ⟨s1, s2, hv, hx⟩, v, x, ⟨rfl, rfl⟩, ⟨s1.mono (by decide), s2.mono (by decide), num_ne.mpr (by grind)⟩, 0, v / x, ⟨rfl, rfl⟩, ⟨sz0.mono (by decide), sv.mono (by decide)⟩, 1, one1 v x, ⟨rfl, rfl⟩, ⟨sz1.mono (by decide), so.mono (by decide)⟩, by decide, by decide, by decide, q⟩
end
end K75

set_option Elab.async false
set_option linter.all false
set_option maxRecDepth 100000
set_option maxHeartbeats 4000000
set_option exponentiation.threshold 100000
/-! plain laws: middles -/
namespace K75
open PySem PySem.Spec PyProof.Rows L2 PV

def spMid : PV.Spec where
  run ds M Q E := ∃ d, ds = [d] ∧ (pl d = true ∧ sm d = true ∧ ∀ l, d = numD l → VN l → Nz l) ∧ (∀ l x y, d = numD l → VN l → (mids l).head? = some x → (mids l).getLast? = some y → Q (.tup [rD x, rD y]) M) ∧ (¬ isNum d → E ⟨1, []⟩ M)
  mono := fun ⟨d, h1, h2, h3, h4⟩ q e => ⟨d, h1, h2, fun l x y h v a b => q _ _ (h3 l x y h v a b), fun h => e _ _ (h4 h)⟩
theorem fr_one {S : Nat} : Fr S S 1 := ⟨S, by simp, by rw [Rat.one_mul]; rfl⟩
theorem sz_half : Sz 4000 (1 / 2) := ⟨by decide +kernel, by decide +kernel⟩
theorem mids_vn {l : List (Rat × Rat)} (v : VN l) : mids l ≠ [] := mids_ne (by decide +kernel) (by rw [Rat.zero_add]; exact v.one)
theorem mids_len : ∀ {l : List (Rat × Rat)} {b : Rat}, (midsFrom b l).length ≤ l.length
  | [], b => Nat.le_refl _
  | p :: l, b => by
    unfold midsFrom
    split
    · simp only [List.length_cons]
      exact Nat.succ_le_succ mids_len
    · exact Nat.le_succ_of_le mids_len
section
variable {m : Sm} {ds : List D} {M : Ms} {Q : D → Ms → Prop} {E : Ex}
theorem p_middles (h12 : m.fn 12 = spNeed) (h4 : m.fn 4 = spR2 (fun a b => a + b) fun _ _ => True) (h5 : m.fn 5 = spR2 (fun a b => a - b) fun _ _ => True) (h8 : m.fn 8 = spLess) (g0 : m.glo 0 = rD 0) (g1 : m.glo 1 = rD 1) (g3 : m.glo 3 = rD (1 / 2)) (h : spMid.run ds M Q E) :
    ws m S_middles E (startR N_middles ds) M { nx := fun _ M' => Q .non M', rt := Q } := by
  obtain ⟨d, rfl, ⟨hp, hs, hz⟩, q1, q2⟩ := h
  simp only [S_middles, N_middles, ws, wx, wl, wi, opd, prt, tst, val, ownv, startR, w1, w2, wII, wint, wb, bt, opt, sq, sqL, sqi, tyOf, isTy, setp, sets, wsl, cturn, fl, cl, List.map_cons, List.map_nil, List.length_cons, List.length_nil, List.nil_append, List.cons_append, List.append_nil, List.replicate, List.getElem?_cons_zero, List.getElem?_cons_succ, List.getElem?_nil, List.set_cons_zero, List.set_cons_succ, List.set_nil, Nat.zero_add, Nat.reduceAdd, Nat.reduceSub, Nat.sub_self, Nat.reduceLT, Nat.lt_add_one, Nat.zero_lt_succ, true_and, and_true, if_true, if_false, Bool.true_eq, Bool.false_eq_true, reduceIte, isNon, List.all_cons, List.all_nil, List.any_cons, List.any_nil, Bool.and_true, Bool.true_and, Bool.or_false, Bool.false_or, Bool.and_false, Bool.false_and, Bool.or_true, Bool.true_or, Bool.not_true, Bool.not_false, Bool.xor_false, Bool.false_xor, Bool.true_xor, Bool.xor_true, List.isEmpty_nil, List.isEmpty_cons, clr, atI_0, atI_1, atI_2, atI_n1, asBls, asInts, dEq_int, dOk_int, dDep_int, Nat.min_self, decide_eq_true_eq, Nat.zero_le, Nat.not_lt_zero, List.cons.injEq, exists_eq_left', exists_and_left, Option.map_some, id_eq, decide_true, decide_false, Bool.not_eq_true, ne_eq, not_true_eq_false, not_false_eq_true, h12, spNeed, hp, hs, g0]
  refine ⟨?_, q2⟩
  rintro ⟨l, rfl, v⟩
  obtain ⟨N, B, S, N0, S0, hN, hB, hS, hf⟩ := (hz l rfl v).ex
  have hlen := v.len8
  simp only [ws, wx, wl, wi, opd, prt, tst, val, ownv, startR, w1, w2, wII, wint, wb, bt, opt, sq, sqL, sqi, tyOf, isTy, setp, sets, wsl, cturn, fl, cl, List.map_cons, List.map_nil, List.length_cons, List.length_nil, List.nil_append, List.cons_append, List.append_nil, List.replicate, List.getElem?_cons_zero, List.getElem?_cons_succ, List.getElem?_nil, List.set_cons_zero, List.set_cons_succ, List.set_nil, Nat.zero_add, Nat.reduceAdd, Nat.reduceSub, Nat.sub_self, Nat.reduceLT, Nat.lt_add_one, Nat.zero_lt_succ, true_and, and_true, if_true, if_false, Bool.true_eq, Bool.false_eq_true, reduceIte, isNon, List.all_cons, List.all_nil, List.any_cons, List.any_nil, Bool.and_true, Bool.true_and, Bool.or_false, Bool.false_or, Bool.and_false, Bool.false_and, Bool.or_true, Bool.true_or, Bool.not_true, Bool.not_false, Bool.xor_false, Bool.false_xor, Bool.true_xor, Bool.xor_true, List.isEmpty_nil, List.isEmpty_cons, clr, atI_0, atI_1, atI_2, atI_n1, asBls, asInts, dEq_int, dOk_int, dDep_int, Nat.min_self, decide_eq_true_eq, Nat.zero_le, Nat.not_lt_zero, List.cons.injEq, exists_eq_left', exists_and_left, Option.map_some, id_eq, decide_true, decide_false, Bool.not_eq_true, ne_eq, not_true_eq_false, not_false_eq_true]
  have szf : ∀ {k : Nat} {q : Rat}, k ≤ 10 → Fr S (k * S) q → Sz 1000 q := fun {k q} hk h => h.sz S0 (lt_pow hS (by decide)) (by
    have : k * S ≤ 2 ^ 4 * 2 ^ 200 := Nat.mul_le_mul (by omega) (Nat.le_of_lt hS)
    rw [← Nat.pow_add] at this
    exact le_pow this (by decide))
  refine for_map (m := m) (t := .tp [3, 4]) (b := B_middles_1) (E := E) pD (fun rest r M' => M' = M ∧ ∃ (b : Rat) (fnd : List Rat) (k : Nat), k + rest.length ≤ 8 ∧ (∀ p ∈ rest, Fr S S p.2) ∧ Fr S (k * S) b ∧ fnd ++ midsFrom b rest = mids l ∧ ∃ s3 s4 s5, r = [.val (numD l), .own (fnd.map rD), .val (rD b), s3, s4, s5]) ⟨rfl, 0, [], 0, by omega, fun p hp => (hf p hp).2, Fr.zero, rfl, _, _, _, rfl⟩ ?_ ?_
  · rintro p rest r M' ⟨rfl, b, fnd, k, hk, hr, fb, he, s3, s4, s5, rfl⟩
    simp only [List.length_cons] at hk
    have fp := hr p (by simp)
    have fb' : Fr S ((k + 1) * S) (b + p.2) := by
      have := fb.add fp
      rw [Nat.add_mul, Nat.one_mul]; exact this
    have fa : Fr S ((1 + k) * S) (1 - b) := by
      have := (fr_one (S := S)).sub fb
      rw [Nat.add_mul, Nat.one_mul]; exact this
    have sb := (szf (by omega) fb).mono (show 1000 ≤ 4000 by decide)
    have sb' := (szf (by omega) fb').mono (show 1000 ≤ 4000 by decide)
    have sa := (szf (by omega) fa).mono (show 1000 ≤ 4000 by decide)
    have sp : Sz 4000 p.2 := fp.sz S0 (lt_pow hS (by decide)) (lt_pow hS (by decide))
    have em : midsFrom b (p :: rest) = if ¬ b + p.2 < 1 / 2 ∧ ¬ 1 - b < 1 / 2 then p.1 :: midsFrom (b + p.2) rest else midsFrom (b + p.2) rest := rfl
    rw [em] at he
    simp only [B_middles_1, ws, wx, wl, wi, opd, prt, tst, val, ownv, startR, w1, w2, wII, wint, wb, bt, opt, sq, sqL, sqi, tyOf, isTy, setp, sets, wsl, cturn, fl, cl, List.map_cons, List.map_nil, List.length_cons, List.length_nil, List.nil_append, List.cons_append, List.append_nil, List.replicate, List.getElem?_cons_zero, List.getElem?_cons_succ, List.getElem?_nil, List.set_cons_zero, List.set_cons_succ, List.set_nil, Nat.zero_add, Nat.reduceAdd, Nat.reduceSub, Nat.sub_self, Nat.reduceLT, Nat.lt_add_one, Nat.zero_lt_succ, true_and, and_true, if_true, if_false, Bool.true_eq, Bool.false_eq_true, reduceIte, isNon, List.all_cons, List.all_nil, List.any_cons, List.any_nil, Bool.and_true, Bool.true_and, Bool.or_false, Bool.false_or, Bool.and_false, Bool.false_and, Bool.or_true, Bool.true_or, Bool.not_true, Bool.not_false, Bool.xor_false, Bool.false_xor, Bool.true_xor, Bool.xor_true, List.isEmpty_nil, List.isEmpty_cons, clr, atI_0, atI_1, atI_2, atI_n1, asBls, asInts, dEq_int, dOk_int, dDep_int, Nat.min_self, decide_eq_true_eq, Nat.zero_le, Nat.not_lt_zero, List.cons.injEq, exists_eq_left', exists_and_left, Option.map_some, id_eq, decide_true, decide_false, Bool.not_eq_true, ne_eq, not_true_eq_false, not_false_eq_true, pD, h4, h5, h8, g1, g3, spR2, spLess, rD_inj]
    refine ⟨by simp, _, _, ⟨rfl, rfl⟩, ⟨sz1.mono (by decide), sb⟩, _, _, ⟨rfl, rfl⟩, ⟨sb, sp⟩, _, _, ⟨rfl, rfl⟩, ⟨sb', sz_half⟩, ?_⟩
    have hfl : fnd.length ≤ 8 := by
      have h1 := congrArg List.length he
      rw [List.length_append] at h1
      have h2 : (mids l).length ≤ l.length := mids_len
      omega
    have hrest : ∀ q ∈ rest, Fr S S q.2 := fun q hq => hr q (by simp [hq])
    by_cases c1 : b + p.2 < 1 / 2
    · rw [if_neg (fun z => z.1 c1)] at he
      simp only [decide_eq_true c1, ws, wx, wl, wi, opd, prt, tst, val, ownv, startR, w1, w2, wII, wint, wb, bt, opt, sq, sqL, sqi, tyOf, isTy, setp, sets, wsl, cturn, fl, cl, List.map_cons, List.map_nil, List.length_cons, List.length_nil, List.nil_append, List.cons_append, List.append_nil, List.replicate, List.getElem?_cons_zero, List.getElem?_cons_succ, List.getElem?_nil, List.set_cons_zero, List.set_cons_succ, List.set_nil, Nat.zero_add, Nat.reduceAdd, Nat.reduceSub, Nat.sub_self, Nat.reduceLT, Nat.lt_add_one, Nat.zero_lt_succ, true_and, and_true, if_true, if_false, Bool.true_eq, Bool.false_eq_true, reduceIte, isNon, List.all_cons, List.all_nil, List.any_cons, List.any_nil, Bool.and_true, Bool.true_and, Bool.or_false, Bool.false_or, Bool.and_false, Bool.false_and, Bool.or_true, Bool.true_or, Bool.not_true, Bool.not_false, Bool.xor_false, Bool.false_xor, Bool.true_xor, Bool.xor_true, List.isEmpty_nil, List.isEmpty_cons, clr, atI_0, atI_1, atI_2, atI_n1, asBls, asInts, dEq_int, dOk_int, dDep_int, Nat.min_self, decide_eq_true_eq, Nat.zero_le, Nat.not_lt_zero, List.cons.injEq, exists_eq_left', exists_and_left, Option.map_some, id_eq, decide_true, decide_false, Bool.not_eq_true, ne_eq, not_true_eq_false, not_false_eq_true]
      exact ⟨_, _, k + 1, by omega, hrest, fb', he, rfl, rfl, _, rfl⟩
    · simp only [decide_eq_false c1, ws, wx, wl, wi, opd, prt, tst, val, ownv, startR, w1, w2, wII, wint, wb, bt, opt, sq, sqL, sqi, tyOf, isTy, setp, sets, wsl, cturn, fl, cl, List.map_cons, List.map_nil, List.length_cons, List.length_nil, List.nil_append, List.cons_append, List.append_nil, List.replicate, List.getElem?_cons_zero, List.getElem?_cons_succ, List.getElem?_nil, List.set_cons_zero, List.set_cons_succ, List.set_nil, Nat.zero_add, Nat.reduceAdd, Nat.reduceSub, Nat.sub_self, Nat.reduceLT, Nat.lt_add_one, Nat.zero_lt_succ, true_and, and_true, if_true, if_false, Bool.true_eq, Bool.false_eq_true, reduceIte, isNon, List.all_cons, List.all_nil, List.any_cons, List.any_nil, Bool.and_true, Bool.true_and, Bool.or_false, Bool.false_or, Bool.and_false, Bool.false_and, Bool.or_true, Bool.true_or, Bool.not_true, Bool.not_false, Bool.xor_false, Bool.false_xor, Bool.true_xor, Bool.xor_true, List.isEmpty_nil, List.isEmpty_cons, clr, atI_0, atI_1, atI_2, atI_n1, asBls, asInts, dEq_int, dOk_int, dDep_int, Nat.min_self, decide_eq_true_eq, Nat.zero_le, Nat.not_lt_zero, List.cons.injEq, exists_eq_left', exists_and_left, Option.map_some, id_eq, decide_true, decide_false, Bool.not_eq_true, ne_eq, not_true_eq_false, not_false_eq_true]
      refine ⟨_, _, ⟨rfl, rfl⟩, ⟨sa, sz_half⟩, ?_⟩
      by_cases c2 : 1 - b < 1 / 2
      · rw [if_neg (fun z => z.2 c2)] at he
        simp only [decide_eq_true c2, ws, wx, wl, wi, opd, prt, tst, val, ownv, startR, w1, w2, wII, wint, wb, bt, opt, sq, sqL, sqi, tyOf, isTy, setp, sets, wsl, cturn, fl, cl, List.map_cons, List.map_nil, List.length_cons, List.length_nil, List.nil_append, List.cons_append, List.append_nil, List.replicate, List.getElem?_cons_zero, List.getElem?_cons_succ, List.getElem?_nil, List.set_cons_zero, List.set_cons_succ, List.set_nil, Nat.zero_add, Nat.reduceAdd, Nat.reduceSub, Nat.sub_self, Nat.reduceLT, Nat.lt_add_one, Nat.zero_lt_succ, true_and, and_true, if_true, if_false, Bool.true_eq, Bool.false_eq_true, reduceIte, isNon, List.all_cons, List.all_nil, List.any_cons, List.any_nil, Bool.and_true, Bool.true_and, Bool.or_false, Bool.false_or, Bool.and_false, Bool.false_and, Bool.or_true, Bool.true_or, Bool.not_true, Bool.not_false, Bool.xor_false, Bool.false_xor, Bool.true_xor, Bool.xor_true, List.isEmpty_nil, List.isEmpty_cons, clr, atI_0, atI_1, atI_2, atI_n1, asBls, asInts, dEq_int, dOk_int, dDep_int, Nat.min_self, decide_eq_true_eq, Nat.zero_le, Nat.not_lt_zero, List.cons.injEq, exists_eq_left', exists_and_left, Option.map_some, id_eq, decide_true, decide_false, Bool.not_eq_true, ne_eq, not_true_eq_false, not_false_eq_true]
        exact ⟨_, _, k + 1, by omega, hrest, fb', he, rfl, rfl, _, rfl⟩
      · rw [if_pos ⟨c1, c2⟩] at he
        simp only [decide_eq_false c2, ws, wx, wl, wi, opd, prt, tst, val, ownv, startR, w1, w2, wII, wint, wb, bt, opt, sq, sqL, sqi, tyOf, isTy, setp, sets, wsl, cturn, fl, cl, List.map_cons, List.map_nil, List.length_cons, List.length_nil, List.nil_append, List.cons_append, List.append_nil, List.replicate, List.getElem?_cons_zero, List.getElem?_cons_succ, List.getElem?_nil, List.set_cons_zero, List.set_cons_succ, List.set_nil, Nat.zero_add, Nat.reduceAdd, Nat.reduceSub, Nat.sub_self, Nat.reduceLT, Nat.lt_add_one, Nat.zero_lt_succ, true_and, and_true, if_true, if_false, Bool.true_eq, Bool.false_eq_true, reduceIte, isNon, List.all_cons, List.all_nil, List.any_cons, List.any_nil, Bool.and_true, Bool.true_and, Bool.or_false, Bool.false_or, Bool.and_false, Bool.false_and, Bool.or_true, Bool.true_or, Bool.not_true, Bool.not_false, Bool.xor_false, Bool.false_xor, Bool.true_xor, Bool.xor_true, List.isEmpty_nil, List.isEmpty_cons, clr, atI_0, atI_1, atI_2, atI_n1, asBls, asInts, dEq_int, dOk_int, dDep_int, Nat.min_self, decide_eq_true_eq, Nat.zero_le, Nat.not_lt_zero, List.cons.injEq, exists_eq_left', exists_and_left, Option.map_some, id_eq, decide_true, decide_false, Bool.not_eq_true, ne_eq, not_true_eq_false, not_false_eq_true]
        exact ⟨by rw [List.length_map]; unfold line; omega, _, fnd ++ [p.1], k + 1, by omega, hrest, fb', by rw [← he]; simp, by rw [List.map_append]; rfl, rfl, _, rfl⟩
  · rintro r M' ⟨rfl, b, fnd, k, hk, hr, fb, he, s3, s4, s5, rfl⟩
    have he : fnd ++ [] = mids l := he
    rw [List.append_nil] at he
    subst he
    cases hm : mids l with
    | nil => exact absurd hm (mids_vn v)
    | cons x ys =>
      simp only [ws, wx, wl, wi, opd, prt, tst, val, ownv, startR, w1, w2, wII, wint, wb, bt, opt, sq, sqL, sqi, tyOf, isTy, setp, sets, wsl, cturn, fl, cl, List.map_cons, List.map_nil, List.length_cons, List.length_nil, List.nil_append, List.cons_append, List.append_nil, List.replicate, List.getElem?_cons_zero, List.getElem?_cons_succ, List.getElem?_nil, List.set_cons_zero, List.set_cons_succ, List.set_nil, Nat.zero_add, Nat.reduceAdd, Nat.reduceSub, Nat.sub_self, Nat.reduceLT, Nat.lt_add_one, Nat.zero_lt_succ, true_and, and_true, if_true, if_false, Bool.true_eq, Bool.false_eq_true, reduceIte, isNon, List.all_cons, List.all_nil, List.any_cons, List.any_nil, Bool.and_true, Bool.true_and, Bool.or_false, Bool.false_or, Bool.and_false, Bool.false_and, Bool.or_true, Bool.true_or, Bool.not_true, Bool.not_false, Bool.xor_false, Bool.false_xor, Bool.true_xor, Bool.xor_true, List.isEmpty_nil, List.isEmpty_cons, clr, atI_0, atI_1, atI_2, atI_n1, asBls, asInts, dEq_int, dOk_int, dDep_int, Nat.min_self, decide_eq_true_eq, Nat.zero_le, Nat.not_lt_zero, List.cons.injEq, exists_eq_left', exists_and_left, Option.map_some, id_eq, decide_true, decide_false, Bool.not_eq_true, ne_eq, not_true_eq_false, not_false_eq_true]
      have hl : ((x :: ys).map rD).getLast? = some (rD ((x :: ys).getLast (by simp))) := by
        rw [List.getLast?_map, List.getLast?_eq_getLast (by simp)]; rfl
      rw [List.map_cons] at hl
      rw [hl]
      exact ⟨by decide, q1 l x _ rfl v (by rw [hm]; rfl) (by rw [hm, List.getLast?_eq_getLast (by simp)])⟩
end
end K75

set_option Elab.async false
set_option linter.all false
set_option maxRecDepth 100000
set_option maxHeartbeats 4000000
set_option exponentiation.threshold 100000
/-! plain laws: the draws -/
namespace K75
open PySem PySem.Spec PyProof.Rows L2 PV

def drD (a b c d : D) : List (Str × D) := [("great", a), ("cells", b), ("rest", c), ("turn", d)]
theorem drD_keys {a b c d : D} : ((drD a b c d).map (·.1)).Nodup := by
  show ([("great" : Str), "cells", "rest", "turn"]).Nodup
  decide +kernel
theorem fg_great {a b c d : D} : fget (drD a b c d) "great" = some a := rfl
theorem s1 : (("great" : Str) = "cells") = False := by decide +kernel
theorem s2 : (("great" : Str) = "rest") = False := by decide +kernel
theorem s3 : (("great" : Str) = "turn") = False := by decide +kernel
theorem s4 : (("cells" : Str) = "rest") = False := by decide +kernel
theorem s5 : (("cells" : Str) = "turn") = False := by decide +kernel
theorem s6 : (("rest" : Str) = "turn") = False := by decide +kernel
theorem fg_cells {a b c d : D} : fget (drD a b c d) "cells" = some b := by simp only [drD, fget, s1, if_false, if_true]
theorem fg_rest {a b c d : D} : fget (drD a b c d) "rest" = some c := by simp only [drD, fget, s2, s4, if_false, if_true]
theorem fg_turn {a b c d : D} : fget (drD a b c d) "turn" = some d := by simp only [drD, fget, s3, s5, s6, if_false, if_true]
theorem fs_rest {a b c d e : D} : fset (drD a b c d) "rest" e = drD a b e d := by simp only [drD, fset, s2, s4, if_false, if_true]
theorem fs_turn {a b c d e : D} : fset (drD a b c d) "turn" e = drD a b c e := by simp only [drD, fset, s3, s5, s6, if_false, if_true]
def drM (q : Str) (gs cs : List Int) (r t : Int) : Ms := [.tab q, .lst (gs.map .int), .dct (drD (.tok 1) (.lst (cs.map .int)) (.int r) (.int t))]
theorem dctM_dr {q : Str} {gs cs : List Int} {r t : Int} : dctM (drM q gs cs r t) (.tok 2) = some (2, drD (.tok 1) (.lst (cs.map .int)) (.int r) (.int t)) := rfl
theorem lstM_dr {q : Str} {gs cs : List Int} {r t : Int} : lstM (drM q gs cs r t) (.tok 1) = some (1, gs.map .int) := rfl
theorem set_dr {q : Str} {gs cs : List Int} {r t r' t' : Int} : (drM q gs cs r t).set 2 (.dct (drD (.tok 1) (.lst (cs.map .int)) (.int r') (.int t'))) = drM q gs cs r' t' := rfl
theorem set_great {q : Str} {gs gs' cs : List Int} {r t : Int} : (drM q gs cs r t).set 1 (.lst (gs'.map .int)) = drM q gs' cs r t := rfl
theorem drD_len {a b c d : D} : (drD a b c d).length ≤ 1000 := by show 4 ≤ 1000; decide
structure DrOk (n : Nat) (gs cs : List Int) (r t : Int) : Prop where
  gs : ∀ g ∈ gs, 0 ≤ g
  r : 0 ≤ r
  t0 : 0 ≤ t
  t1 : t ≤ n
def Dr (n : Nat) (M : Ms) : Prop := ∃ (q : Str) (gs cs : List Int) (r t : Int), M = drM q gs cs r t ∧ DrOk n gs cs r t
theorem Dr.mono {n k : Nat} {M : Ms} (h : Dr n M) (hk : n ≤ k) : Dr k M := by
  obtain ⟨q, gs, cs, r, t, h1, h2⟩ := h
  exact ⟨q, gs, cs, r, t, h1, h2.gs, h2.r, h2.t0, by have := h2.t1; omega⟩
def spBegun : PV.Spec where
  run ds M Q E := ∃ (ns : List Int) (q : Str), ds = [.scr ns] ∧ (ns.length ≤ 1000 ∧ M = [.tab q]) ∧ ∀ M', Dr 0 M' → Q (.tok 2) M'
  mono := fun ⟨a, b, h1, h2, h3⟩ q _ => ⟨a, b, h1, h2, fun M h => q _ _ (h3 M h)⟩
def spBlend : PV.Spec where
  run ds M Q E := ds = [.tok 2] ∧ ∃ (n : Nat) (q : Str) (gs cs : List Int) (r t : Int), (M = drM q gs cs r t ∧ DrOk n gs cs r t ∧ n < 2 ^ 40) ∧ ∀ f : Int, 0 ≤ f → Q (.int f) (drM q gs cs r (t + 1))
  mono := fun ⟨h0, a, b, c, d, e, f, h1, h2⟩ q _ => ⟨h0, a, b, c, d, e, f, h1, fun x h => q _ _ (h2 x h)⟩
def spDraw : PV.Spec where
  run ds M Q E := ∃ (room : Int) (n : Nat), ds = [.tok 2, .int room] ∧ (0 < room ∧ room < 2 ^ 64 ∧ n < 2 ^ 40 ∧ Dr n M) ∧ ∀ v M', 0 ≤ v → v < room → Dr (n + 1) M' → Q (.int v) M'
  mono := fun ⟨a, b, h1, h2, h3⟩ q _ => ⟨a, b, h1, h2, fun x M h h' h'' => q _ _ (h3 x M h h' h'')⟩
def spPick : PV.Spec where
  run ds M Q E := ∃ (xs : List D) (n : Nat), ds = [.tok 2, .lst xs] ∧ (xs ≠ [] ∧ xs.length ≤ 1000 ∧ n < 2 ^ 40 ∧ Dr n M) ∧ ∀ x M', x ∈ xs → Dr (n + 1) M' → Q x M'
  mono := fun ⟨a, b, h1, h2, h3⟩ q _ => ⟨a, b, h1, h2, fun x M h h' => q _ _ (h3 x M h h')⟩
theorem oks_int : ∀ gs : List Int, dOks (gs.map .int) = true
  | [] => rfl
  | g :: gs => by
    show (true && dOks (gs.map .int)) = true
    rw [oks_int gs]; rfl
theorem deps_int : ∀ gs : List Int, dDeps (gs.map .int) = 0
  | [] => rfl
  | g :: gs => by
    show max 0 (dDeps (gs.map .int)) = 0
    rw [deps_int gs]; rfl
theorem fm_if (c : Int → Bool) (f : Int → Int) : ∀ ns : List Int, ns.filterMap (fun n => if c n = true then some (D.int (f n)) else none) = ((ns.filter c).map f).map .int
  | [] => rfl
  | n :: ns => by
    cases h : c n with
    | true => rw [List.filterMap_cons_some (b := .int (f n)) (by simp only [h, if_true]), List.filter_cons_of_pos h, List.map_cons, List.map_cons, fm_if c f ns]
    | false => rw [List.filterMap_cons_none (by simp only [h, Bool.false_eq_true, if_false]), List.filter_cons_of_neg (by simp [h]), fm_if c f ns]
section
variable {m : Sm} {ds : List D} {M : Ms} {Q : D → Ms → Prop} {E : Ex}
theorem p__law_begun (h : spBegun.run ds M Q E) : ws m S__law_begun E (startR N__law_begun ds) M { nx := fun _ M' => Q .non M', rt := Q } := by
  obtain ⟨ns, q, rfl, ⟨hl, rfl⟩, hq⟩ := h
  simp only [S__law_begun, N__law_begun, ws, wx, wl, wi, opd, prt, tst, val, ownv, startR, w1, w2, wII, wint, wb, bt, opt, sq, sqL, sqi, tyOf, isTy, setp, sets, wsl, cturn, fl, cl, List.map_cons, List.map_nil, List.length_cons, List.length_nil, List.nil_append, List.cons_append, List.append_nil, List.replicate, List.getElem?_cons_zero, List.getElem?_cons_succ, List.getElem?_nil, List.set_cons_zero, List.set_cons_succ, List.set_nil, Nat.zero_add, Nat.reduceAdd, Nat.reduceSub, Nat.sub_self, Nat.reduceLT, Nat.lt_add_one, Nat.zero_lt_succ, true_and, and_true, if_true, if_false, Bool.true_eq, Bool.false_eq_true, reduceIte, isNon, List.all_cons, List.all_nil, List.any_cons, List.any_nil, Bool.and_true, Bool.true_and, Bool.or_false, Bool.false_or, Bool.and_false, Bool.false_and, Bool.or_true, Bool.true_or, Bool.not_true, Bool.not_false, Bool.xor_false, Bool.false_xor, Bool.true_xor, Bool.xor_true, List.isEmpty_nil, List.isEmpty_cons, clr, atI_0, atI_1, atI_2, atI_n1, asBls, asInts, dEq_int, dOk_int, dDep_int, Nat.min_self, decide_eq_true_eq, Nat.zero_le, Nat.not_lt_zero, List.cons.injEq, exists_eq_left', exists_and_left, Option.map_some, id_eq, decide_true, decide_false, Bool.not_eq_true, ne_eq, not_true_eq_false, not_false_eq_true]
  refine ⟨by rw [List.length_map]; unfold line; omega, cl_map _ (fun n : Int => if decide (10 ^ 18 ≤ ((n.natAbs : Nat) : Int)) = true then some (.int ((n.natAbs : Nat) - 10 ^ 18)) else none) (fun n hn K hK => ?_) ?_⟩
  · simp only [ws, wx, wl, wi, opd, prt, tst, val, ownv, startR, w1, w2, wII, wint, wb, bt, opt, sq, sqL, sqi, tyOf, isTy, setp, sets, wsl, cturn, fl, cl, List.map_cons, List.map_nil, List.length_cons, List.length_nil, List.nil_append, List.cons_append, List.append_nil, List.replicate, List.getElem?_cons_zero, List.getElem?_cons_succ, List.getElem?_nil, List.set_cons_zero, List.set_cons_succ, List.set_nil, Nat.zero_add, Nat.reduceAdd, Nat.reduceSub, Nat.sub_self, Nat.reduceLT, Nat.lt_add_one, Nat.zero_lt_succ, true_and, and_true, if_true, if_false, Bool.true_eq, Bool.false_eq_true, reduceIte, isNon, List.all_cons, List.all_nil, List.any_cons, List.any_nil, Bool.and_true, Bool.true_and, Bool.or_false, Bool.false_or, Bool.and_false, Bool.false_and, Bool.or_true, Bool.true_or, Bool.not_true, Bool.not_false, Bool.xor_false, Bool.false_xor, Bool.true_xor, Bool.xor_true, List.isEmpty_nil, List.isEmpty_cons, clr, atI_0, atI_1, atI_2, atI_n1, asBls, asInts, dEq_int, dOk_int, dDep_int, Nat.min_self, decide_eq_true_eq, Nat.zero_le, Nat.not_lt_zero, List.cons.injEq, exists_eq_left', exists_and_left, Option.map_some, id_eq, decide_true, decide_false, Bool.not_eq_true, ne_eq, not_true_eq_false, not_false_eq_true] at hK ⊢
    refine ⟨by decide, ?_⟩
    have e : (10 : Int) ^ Int.toNat 18 = 10 ^ 18 := rfl
    rw [e]
    by_cases c : (10 : Int) ^ 18 ≤ ((n.natAbs : Nat) : Int)
    · rw [if_pos c] at hK ⊢
      exact ⟨by decide, hK⟩
    · rw [if_neg c] at hK ⊢
      exact hK
  · refine ⟨by rw [List.length_map]; unfold line; omega, cl_map _ (fun n : Int => some (.int (n.natAbs : Nat))) (fun n hn K hK => ?_) ?_⟩
    · simp only [ws, wx, wl, wi, opd, prt, tst, val, ownv, startR, w1, w2, wII, wint, wb, bt, opt, sq, sqL, sqi, tyOf, isTy, setp, sets, wsl, cturn, fl, cl, List.map_cons, List.map_nil, List.length_cons, List.length_nil, List.nil_append, List.cons_append, List.append_nil, List.replicate, List.getElem?_cons_zero, List.getElem?_cons_succ, List.getElem?_nil, List.set_cons_zero, List.set_cons_succ, List.set_nil, Nat.zero_add, Nat.reduceAdd, Nat.reduceSub, Nat.sub_self, Nat.reduceLT, Nat.lt_add_one, Nat.zero_lt_succ, true_and, and_true, if_true, if_false, Bool.true_eq, Bool.false_eq_true, reduceIte, isNon, List.all_cons, List.all_nil, List.any_cons, List.any_nil, Bool.and_true, Bool.true_and, Bool.or_false, Bool.false_or, Bool.and_false, Bool.false_and, Bool.or_true, Bool.true_or, Bool.not_true, Bool.not_false, Bool.xor_false, Bool.false_xor, Bool.true_xor, Bool.xor_true, List.isEmpty_nil, List.isEmpty_cons, clr, atI_0, atI_1, atI_2, atI_n1, asBls, asInts, dEq_int, dOk_int, dDep_int, Nat.min_self, decide_eq_true_eq, Nat.zero_le, Nat.not_lt_zero, List.cons.injEq, exists_eq_left', exists_and_left, Option.map_some, id_eq, decide_true, decide_false, Bool.not_eq_true, ne_eq, not_true_eq_false, not_false_eq_true] at hK ⊢
      exact hK
    · rw [fm_if (fun n => decide (10 ^ 18 ≤ ((n.natAbs : Nat) : Int))) (fun n => (n.natAbs : Nat) - 10 ^ 18), fm_some]
      refine ⟨by decide +kernel, ?_⟩
      refine hq _ ⟨q, ((ns.filter fun n => decide (10 ^ 18 ≤ ((n.natAbs : Nat) : Int))).map fun n => ((n.natAbs : Nat) : Int) - 10 ^ 18), ns.map fun n => ((n.natAbs : Nat) : Int), 0, 0, ?_, ?_, by decide, by decide, by decide⟩
      · unfold drM drD
        simp only [List.nil_append, List.map_map]
        rfl
      · intro g hg
        obtain ⟨n, hn, rfl⟩ := List.mem_map.mp hg
        have := of_decide_eq_true (List.mem_filter.mp hn).2
        omega
/-- one prime's turn -/
theorem blend_in {n : Nat} {q : Str} {gs cs : List Int} {r t : Int} {p : Int} (hp : 0 < p ∧ p < 2 ^ 31) (hM : M = drM q gs cs r t) (ht : 0 ≤ t) (hn : t < 2 ^ 45) {f b : Int} {x : Sl} (hf : 0 ≤ f) {k : Nat} (hf2 : f < 2 ^ k) (hk : k ≤ 1000) {Kn : PV.Kn} {b0 : Sl}
    (hq : ∀ f' b' x', 0 ≤ f' → f' < 2 ^ (k + 32) → Kn.nx [.val (.tok 2), .val (.int t), .val (.int f'), .val (.int p), b', x'] M) :
    ws m B__law_blended_2 E [.val (.tok 2), .val (.int t), .val (.int f), .val (.int p), b0, x] M Kn := by
  subst hM
  have tN : t.natAbs < 2 ^ 45 := by omega
  have pk : ((2 ^ k : Nat) : Int) = (2 : Int) ^ k := by simp [Int.natCast_pow]
  have pk0 : 0 < 2 ^ k := Nat.two_pow_pos k
  have big : ∀ c : Int, 0 ≤ c → c < 2 ^ 64 → MulC c 69621 := fun c h1 h2 => mulC_of (k := 64) (l := 64) (by omega) (by decide) (by decide) (by decide)
  simp only [B__law_blended_2, ws, wx, wl, wi, opd, prt, tst, val, ownv, startR, w1, w2, wII, wint, wb, bt, opt, sq, sqL, sqi, tyOf, isTy, setp, sets, wsl, cturn, fl, cl, List.map_cons, List.map_nil, List.length_cons, List.length_nil, List.nil_append, List.cons_append, List.append_nil, List.replicate, List.getElem?_cons_zero, List.getElem?_cons_succ, List.getElem?_nil, List.set_cons_zero, List.set_cons_succ, List.set_nil, Nat.zero_add, Nat.reduceAdd, Nat.reduceSub, Nat.sub_self, Nat.reduceLT, Nat.lt_add_one, Nat.zero_lt_succ, true_and, and_true, if_true, if_false, Bool.true_eq, Bool.false_eq_true, reduceIte, isNon, List.all_cons, List.all_nil, List.any_cons, List.any_nil, Bool.and_true, Bool.true_and, Bool.or_false, Bool.false_or, Bool.and_false, Bool.false_and, Bool.or_true, Bool.true_or, Bool.not_true, Bool.not_false, Bool.xor_false, Bool.false_xor, Bool.true_xor, Bool.xor_true, List.isEmpty_nil, List.isEmpty_cons, clr, atI_0, atI_1, atI_2, atI_n1, asBls, asInts, dEq_int, dOk_int, dDep_int, Nat.min_self, decide_eq_true_eq, Nat.zero_le, Nat.not_lt_zero, List.cons.injEq, exists_eq_left', exists_and_left, Option.map_some, id_eq, decide_true, decide_false, Bool.not_eq_true, ne_eq, not_true_eq_false, not_false_eq_true, dctM_dr, fg_cells]
  refine ⟨mulC_of (k := 64) (l := 45) (by decide) tN (by decide) (by decide), by decide, ?_⟩
  have b1 : 0 ≤ 48271 * t + p.fdiv 53 := by
    have : 0 ≤ p.fdiv 53 := by rw [Int.fdiv_eq_ediv_of_nonneg _ (by decide)]; omega
    omega
  have b2 : 48271 * t + p.fdiv 53 < 2 ^ 64 := by
    have : p.fdiv 53 ≤ p := by rw [Int.fdiv_eq_ediv_of_nonneg _ (by decide)]; omega
    omega
  refine for_map (m := m) (t := .nm 5) (b := B__law_blended_1) (E := E) D.int (fun rest r' M' => M' = drM q gs cs r t ∧ ∃ (c : Int) (z : Sl), 0 ≤ c ∧ c < 2 ^ 64 ∧ r' = [.val (.tok 2), .val (.int t), .val (.int f), .val (.int p), .val (.int c), z]) ⟨rfl, _, _, b1, b2, rfl⟩ ?_ ?_
  · rintro y rest r' M' ⟨rfl, c, z, c1, c2, rfl⟩
    simp only [B__law_blended_1, ws, wx, wl, wi, opd, prt, tst, val, ownv, startR, w1, w2, wII, wint, wb, bt, opt, sq, sqL, sqi, tyOf, isTy, setp, sets, wsl, cturn, fl, cl, List.map_cons, List.map_nil, List.length_cons, List.length_nil, List.nil_append, List.cons_append, List.append_nil, List.replicate, List.getElem?_cons_zero, List.getElem?_cons_succ, List.getElem?_nil, List.set_cons_zero, List.set_cons_succ, List.set_nil, Nat.zero_add, Nat.reduceAdd, Nat.reduceSub, Nat.sub_self, Nat.reduceLT, Nat.lt_add_one, Nat.zero_lt_succ, true_and, and_true, if_true, if_false, Bool.true_eq, Bool.false_eq_true, reduceIte, isNon, List.all_cons, List.all_nil, List.any_cons, List.any_nil, Bool.and_true, Bool.true_and, Bool.or_false, Bool.false_or, Bool.and_false, Bool.false_and, Bool.or_true, Bool.true_or, Bool.not_true, Bool.not_false, Bool.xor_false, Bool.false_xor, Bool.true_xor, Bool.xor_true, List.isEmpty_nil, List.isEmpty_cons, clr, atI_0, atI_1, atI_2, atI_n1, asBls, asInts, dEq_int, dOk_int, dDep_int, Nat.min_self, decide_eq_true_eq, Nat.zero_le, Nat.not_lt_zero, List.cons.injEq, exists_eq_left', exists_and_left, Option.map_some, id_eq, decide_true, decide_false, Bool.not_eq_true, ne_eq, not_true_eq_false, not_false_eq_true]
    have := Int.fmod_nonneg_of_pos (c * 69621 + y + t) hp.1
    have := Int.fmod_lt_of_pos (c * 69621 + y + t) hp.1
    exact ⟨big c c1 c2, by omega, _, by assumption, by omega, rfl, _, rfl⟩
  · rintro r' M' ⟨rfl, c, z, c1, c2, rfl⟩
    simp only [ws, wx, wl, wi, opd, prt, tst, val, ownv, startR, w1, w2, wII, wint, wb, bt, opt, sq, sqL, sqi, tyOf, isTy, setp, sets, wsl, cturn, fl, cl, List.map_cons, List.map_nil, List.length_cons, List.length_nil, List.nil_append, List.cons_append, List.append_nil, List.replicate, List.getElem?_cons_zero, List.getElem?_cons_succ, List.getElem?_nil, List.set_cons_zero, List.set_cons_succ, List.set_nil, Nat.zero_add, Nat.reduceAdd, Nat.reduceSub, Nat.sub_self, Nat.reduceLT, Nat.lt_add_one, Nat.zero_lt_succ, true_and, and_true, if_true, if_false, Bool.true_eq, Bool.false_eq_true, reduceIte, isNon, List.all_cons, List.all_nil, List.any_cons, List.any_nil, Bool.and_true, Bool.true_and, Bool.or_false, Bool.false_or, Bool.and_false, Bool.false_and, Bool.or_true, Bool.true_or, Bool.not_true, Bool.not_false, Bool.xor_false, Bool.false_xor, Bool.true_xor, Bool.xor_true, List.isEmpty_nil, List.isEmpty_cons, clr, atI_0, atI_1, atI_2, atI_n1, asBls, asInts, dEq_int, dOk_int, dDep_int, Nat.min_self, decide_eq_true_eq, Nat.zero_le, Nat.not_lt_zero, List.cons.injEq, exists_eq_left', exists_and_left, Option.map_some, id_eq, decide_true, decide_false, Bool.not_eq_true, ne_eq, not_true_eq_false, not_false_eq_true]
    have h1 := Int.fmod_nonneg_of_pos (c ^ Int.toNat 5) hp.1
    have h2 := Int.fmod_lt_of_pos (c ^ Int.toNat 5) hp.1
    have h3 : f * 2147483647 < 2 ^ k * 2 ^ 31 := by
      have : f * 2147483647 ≤ f * 2 ^ 31 := Int.mul_le_mul_of_nonneg_left (by decide) hf
      have h5 : f * 2 ^ 31 < 2 ^ k * 2 ^ 31 := Int.mul_lt_mul_of_pos_right hf2 (by decide)
      omega
    refine ⟨mulC_of (k := k) (l := 64) (by omega) (by decide) (by omega) (by decide), ⟨by decide, by decide, by omega⟩, by omega, hq _ _ _ ?_ ?_⟩
    · have : 0 ≤ f * 2147483647 := Int.mul_nonneg hf (by decide)
      omega
    · have e : (2 : Int) ^ (k + 32) = 2 ^ k * 2 ^ 31 * 2 := by rw [Int.pow_add, Int.mul_assoc]; rfl
      have e2 : (1 : Int) ≤ 2 ^ k := by omega
      omega
theorem p__law_blended (h : spBlend.run ds M Q E) : ws m S__law_blended E (startR N__law_blended ds) M { nx := fun _ M' => Q .non M', rt := Q } := by
  obtain ⟨rfl, n, q, gs, cs, r, t, ⟨rfl, ok, hn⟩, hq⟩ := h
  have ht0 := ok.t0
  have ht1 := ok.t1
  simp only [S__law_blended, N__law_blended, ws, wx, wl, wi, opd, prt, tst, val, ownv, startR, w1, w2, wII, wint, wb, bt, opt, sq, sqL, sqi, tyOf, isTy, setp, sets, wsl, cturn, fl, cl, List.map_cons, List.map_nil, List.length_cons, List.length_nil, List.nil_append, List.cons_append, List.append_nil, List.replicate, List.getElem?_cons_zero, List.getElem?_cons_succ, List.getElem?_nil, List.set_cons_zero, List.set_cons_succ, List.set_nil, Nat.zero_add, Nat.reduceAdd, Nat.reduceSub, Nat.sub_self, Nat.reduceLT, Nat.lt_add_one, Nat.zero_lt_succ, true_and, and_true, if_true, if_false, Bool.true_eq, Bool.false_eq_true, reduceIte, isNon, List.all_cons, List.all_nil, List.any_cons, List.any_nil, Bool.and_true, Bool.true_and, Bool.or_false, Bool.false_or, Bool.and_false, Bool.false_and, Bool.or_true, Bool.true_or, Bool.not_true, Bool.not_false, Bool.xor_false, Bool.false_xor, Bool.true_xor, Bool.xor_true, List.isEmpty_nil, List.isEmpty_cons, clr, atI_0, atI_1, atI_2, atI_n1, asBls, asInts, dEq_int, dOk_int, dDep_int, Nat.min_self, decide_eq_true_eq, Nat.zero_le, Nat.not_lt_zero, List.cons.injEq, exists_eq_left', exists_and_left, Option.map_some, id_eq, decide_true, decide_false, Bool.not_eq_true, ne_eq, not_true_eq_false, not_false_eq_true, dctM_dr, fg_turn, fs_turn, set_dr]
  refine ⟨⟨drD_len, drD_keys⟩, by decide, ?_⟩
  have t0 : 0 ≤ t + 1 := by omega
  have t1 : t + 1 < 2 ^ 45 := by omega
  refine blend_in (n := n) (b := 0) (p := 2147483579) (k := 1) (by decide) rfl t0 t1 (Int.le_refl 0) (by decide) (by decide) fun f b x f0 f1 => ?_
  simp only [ws, wx, wl, wi, opd, prt, tst, val, ownv, startR, w1, w2, wII, wint, wb, bt, opt, sq, sqL, sqi, tyOf, isTy, setp, sets, wsl, cturn, fl, cl, List.map_cons, List.map_nil, List.length_cons, List.length_nil, List.nil_append, List.cons_append, List.append_nil, List.replicate, List.getElem?_cons_zero, List.getElem?_cons_succ, List.getElem?_nil, List.set_cons_zero, List.set_cons_succ, List.set_nil, Nat.zero_add, Nat.reduceAdd, Nat.reduceSub, Nat.sub_self, Nat.reduceLT, Nat.lt_add_one, Nat.zero_lt_succ, true_and, and_true, if_true, if_false, Bool.true_eq, Bool.false_eq_true, reduceIte, isNon, List.all_cons, List.all_nil, List.any_cons, List.any_nil, Bool.and_true, Bool.true_and, Bool.or_false, Bool.false_or, Bool.and_false, Bool.false_and, Bool.or_true, Bool.true_or, Bool.not_true, Bool.not_false, Bool.xor_false, Bool.false_xor, Bool.true_xor, Bool.xor_true, List.isEmpty_nil, List.isEmpty_cons, clr, atI_0, atI_1, atI_2, atI_n1, asBls, asInts, dEq_int, dOk_int, dDep_int, Nat.min_self, decide_eq_true_eq, Nat.zero_le, Nat.not_lt_zero, List.cons.injEq, exists_eq_left', exists_and_left, Option.map_some, id_eq, decide_true, decide_false, Bool.not_eq_true, ne_eq, not_true_eq_false, not_false_eq_true]
  refine blend_in (n := n) (b := 0) (p := 2147483629) (k := 33) (by decide) rfl t0 t1 f0 f1 (by decide) fun f b x f0 f1 => ?_
  simp only [ws, wx, wl, wi, opd, prt, tst, val, ownv, startR, w1, w2, wII, wint, wb, bt, opt, sq, sqL, sqi, tyOf, isTy, setp, sets, wsl, cturn, fl, cl, List.map_cons, List.map_nil, List.length_cons, List.length_nil, List.nil_append, List.cons_append, List.append_nil, List.replicate, List.getElem?_cons_zero, List.getElem?_cons_succ, List.getElem?_nil, List.set_cons_zero, List.set_cons_succ, List.set_nil, Nat.zero_add, Nat.reduceAdd, Nat.reduceSub, Nat.sub_self, Nat.reduceLT, Nat.lt_add_one, Nat.zero_lt_succ, true_and, and_true, if_true, if_false, Bool.true_eq, Bool.false_eq_true, reduceIte, isNon, List.all_cons, List.all_nil, List.any_cons, List.any_nil, Bool.and_true, Bool.true_and, Bool.or_false, Bool.false_or, Bool.and_false, Bool.false_and, Bool.or_true, Bool.true_or, Bool.not_true, Bool.not_false, Bool.xor_false, Bool.false_xor, Bool.true_xor, Bool.xor_true, List.isEmpty_nil, List.isEmpty_cons, clr, atI_0, atI_1, atI_2, atI_n1, asBls, asInts, dEq_int, dOk_int, dDep_int, Nat.min_self, decide_eq_true_eq, Nat.zero_le, Nat.not_lt_zero, List.cons.injEq, exists_eq_left', exists_and_left, Option.map_some, id_eq, decide_true, decide_false, Bool.not_eq_true, ne_eq, not_true_eq_false, not_false_eq_true]
  refine blend_in (n := n) (b := 0) (p := 2147483563) (k := 65) (by decide) rfl t0 t1 f0 f1 (by decide) fun f b x f0 f1 => ?_
  simp only [ws, wx, wl, wi, opd, prt, tst, val, ownv, startR, w1, w2, wII, wint, wb, bt, opt, sq, sqL, sqi, tyOf, isTy, setp, sets, wsl, cturn, fl, cl, List.map_cons, List.map_nil, List.length_cons, List.length_nil, List.nil_append, List.cons_append, List.append_nil, List.replicate, List.getElem?_cons_zero, List.getElem?_cons_succ, List.getElem?_nil, List.set_cons_zero, List.set_cons_succ, List.set_nil, Nat.zero_add, Nat.reduceAdd, Nat.reduceSub, Nat.sub_self, Nat.reduceLT, Nat.lt_add_one, Nat.zero_lt_succ, true_and, and_true, if_true, if_false, Bool.true_eq, Bool.false_eq_true, reduceIte, isNon, List.all_cons, List.all_nil, List.any_cons, List.any_nil, Bool.and_true, Bool.true_and, Bool.or_false, Bool.false_or, Bool.and_false, Bool.false_and, Bool.or_true, Bool.true_or, Bool.not_true, Bool.not_false, Bool.xor_false, Bool.false_xor, Bool.true_xor, Bool.xor_true, List.isEmpty_nil, List.isEmpty_cons, clr, atI_0, atI_1, atI_2, atI_n1, asBls, asInts, dEq_int, dOk_int, dDep_int, Nat.min_self, decide_eq_true_eq, Nat.zero_le, Nat.not_lt_zero, List.cons.injEq, exists_eq_left', exists_and_left, Option.map_some, id_eq, decide_true, decide_false, Bool.not_eq_true, ne_eq, not_true_eq_false, not_false_eq_true]
  exact hq f f0
theorem p__law_draw (h21 : m.fn 21 = spBlend) (h : spDraw.run ds M Q E) : ws m S__law_draw E (startR N__law_draw ds) M { nx := fun _ M' => Q .non M', rt := Q } := by
  obtain ⟨room, n, rfl, ⟨h0, h1, hn, q, gs, cs, r, t, rfl, ok⟩, hq⟩ := h
  have rl : room ≠ 0 ∧ room.natAbs.log2 < 9000 := ⟨by omega, by
    have : room.natAbs < 2 ^ 64 := by omega
    exact Nat.lt_trans (log_lt this (by decide)) (by decide)⟩
  have last : ∀ (gs' : List Int) (r' t' : Int), (∀ g ∈ gs', 0 ≤ g) → 0 ≤ r' → 0 ≤ t' → t' ≤ ((n + 1 : Nat) : Int) → Q (.int (r'.fmod room)) (drM q gs' cs (r'.fdiv room) t') := fun gs' r' t' hg hr ht ht' => by
    refine hq _ _ (Int.fmod_nonneg_of_pos _ h0) (Int.fmod_lt_of_pos _ h0) ⟨q, gs', cs, _, t', rfl, hg, ?_, ht, ht'⟩
    rw [Int.fdiv_eq_ediv_of_nonneg _ (by omega)]
    exact Int.ediv_nonneg hr (by omega)
  have ht1 := ok.t1
  simp only [S__law_draw, N__law_draw, ws, wx, wl, wi, opd, prt, tst, val, ownv, startR, w1, w2, wII, wint, wb, bt, opt, sq, sqL, sqi, tyOf, isTy, setp, sets, wsl, cturn, fl, cl, List.map_cons, List.map_nil, List.length_cons, List.length_nil, List.nil_append, List.cons_append, List.append_nil, List.replicate, List.getElem?_cons_zero, List.getElem?_cons_succ, List.getElem?_nil, List.set_cons_zero, List.set_cons_succ, List.set_nil, Nat.zero_add, Nat.reduceAdd, Nat.reduceSub, Nat.sub_self, Nat.reduceLT, Nat.lt_add_one, Nat.zero_lt_succ, true_and, and_true, if_true, if_false, Bool.true_eq, Bool.false_eq_true, reduceIte, isNon, List.all_cons, List.all_nil, List.any_cons, List.any_nil, Bool.and_true, Bool.true_and, Bool.or_false, Bool.false_or, Bool.and_false, Bool.false_and, Bool.or_true, Bool.true_or, Bool.not_true, Bool.not_false, Bool.xor_false, Bool.false_xor, Bool.true_xor, Bool.xor_true, List.isEmpty_nil, List.isEmpty_cons, clr, atI_0, atI_1, atI_2, atI_n1, asBls, asInts, dEq_int, dOk_int, dDep_int, Nat.min_self, decide_eq_true_eq, Nat.zero_le, Nat.not_lt_zero, List.cons.injEq, exists_eq_left', exists_and_left, Option.map_some, id_eq, decide_true, decide_false, Bool.not_eq_true, ne_eq, not_true_eq_false, not_false_eq_true, dctM_dr, fg_rest, fg_great, lstM_dr, fs_rest, set_dr, h21, drD_len, drD_keys, rl]
  by_cases r0 : r = 0
  · subst r0
    simp only [ws, wx, wl, wi, opd, prt, tst, val, ownv, startR, w1, w2, wII, wint, wb, bt, opt, sq, sqL, sqi, tyOf, isTy, setp, sets, wsl, cturn, fl, cl, List.map_cons, List.map_nil, List.length_cons, List.length_nil, List.nil_append, List.cons_append, List.append_nil, List.replicate, List.getElem?_cons_zero, List.getElem?_cons_succ, List.getElem?_nil, List.set_cons_zero, List.set_cons_succ, List.set_nil, Nat.zero_add, Nat.reduceAdd, Nat.reduceSub, Nat.sub_self, Nat.reduceLT, Nat.lt_add_one, Nat.zero_lt_succ, true_and, and_true, if_true, if_false, Bool.true_eq, Bool.false_eq_true, reduceIte, isNon, List.all_cons, List.all_nil, List.any_cons, List.any_nil, Bool.and_true, Bool.true_and, Bool.or_false, Bool.false_or, Bool.and_false, Bool.false_and, Bool.or_true, Bool.true_or, Bool.not_true, Bool.not_false, Bool.xor_false, Bool.false_xor, Bool.true_xor, Bool.xor_true, List.isEmpty_nil, List.isEmpty_cons, clr, atI_0, atI_1, atI_2, atI_n1, asBls, asInts, dEq_int, dOk_int, dDep_int, Nat.min_self, decide_eq_true_eq, Nat.zero_le, Nat.not_lt_zero, List.cons.injEq, exists_eq_left', exists_and_left, Option.map_some, id_eq, decide_true, decide_false, Bool.not_eq_true, ne_eq, not_true_eq_false, not_false_eq_true, beq_self_eq_true, dctM_dr, fg_great, lstM_dr, oks_int, deps_int]
    cases gs with
    | nil =>
      simp only [ws, wx, wl, wi, opd, prt, tst, val, ownv, startR, w1, w2, wII, wint, wb, bt, opt, sq, sqL, sqi, tyOf, isTy, setp, sets, wsl, cturn, fl, cl, List.map_cons, List.map_nil, List.length_cons, List.length_nil, List.nil_append, List.cons_append, List.append_nil, List.replicate, List.getElem?_cons_zero, List.getElem?_cons_succ, List.getElem?_nil, List.set_cons_zero, List.set_cons_succ, List.set_nil, Nat.zero_add, Nat.reduceAdd, Nat.reduceSub, Nat.sub_self, Nat.reduceLT, Nat.lt_add_one, Nat.zero_lt_succ, true_and, and_true, if_true, if_false, Bool.true_eq, Bool.false_eq_true, reduceIte, isNon, List.all_cons, List.all_nil, List.any_cons, List.any_nil, Bool.and_true, Bool.true_and, Bool.or_false, Bool.false_or, Bool.and_false, Bool.false_and, Bool.or_true, Bool.true_or, Bool.not_true, Bool.not_false, Bool.xor_false, Bool.false_xor, Bool.true_xor, Bool.xor_true, List.isEmpty_nil, List.isEmpty_cons, clr, atI_0, atI_1, atI_2, atI_n1, asBls, asInts, dEq_int, dOk_int, dDep_int, Nat.min_self, decide_eq_true_eq, Nat.zero_le, Nat.not_lt_zero, List.cons.injEq, exists_eq_left', exists_and_left, Option.map_some, id_eq, decide_true, decide_false, Bool.not_eq_true, ne_eq, not_true_eq_false, not_false_eq_true]
      refine ⟨rfl, n, q, [], cs, 0, t, ⟨rfl, ok, hn⟩, fun f hf => ?_⟩
      simp only [ws, wx, wl, wi, opd, prt, tst, val, ownv, startR, w1, w2, wII, wint, wb, bt, opt, sq, sqL, sqi, tyOf, isTy, setp, sets, wsl, cturn, fl, cl, List.map_cons, List.map_nil, List.length_cons, List.length_nil, List.nil_append, List.cons_append, List.append_nil, List.replicate, List.getElem?_cons_zero, List.getElem?_cons_succ, List.getElem?_nil, List.set_cons_zero, List.set_cons_succ, List.set_nil, Nat.zero_add, Nat.reduceAdd, Nat.reduceSub, Nat.sub_self, Nat.reduceLT, Nat.lt_add_one, Nat.zero_lt_succ, true_and, and_true, if_true, if_false, Bool.true_eq, Bool.false_eq_true, reduceIte, isNon, List.all_cons, List.all_nil, List.any_cons, List.any_nil, Bool.and_true, Bool.true_and, Bool.or_false, Bool.false_or, Bool.and_false, Bool.false_and, Bool.or_true, Bool.true_or, Bool.not_true, Bool.not_false, Bool.xor_false, Bool.false_xor, Bool.true_xor, Bool.xor_true, List.isEmpty_nil, List.isEmpty_cons, clr, atI_0, atI_1, atI_2, atI_n1, asBls, asInts, dEq_int, dOk_int, dDep_int, Nat.min_self, decide_eq_true_eq, Nat.zero_le, Nat.not_lt_zero, List.cons.injEq, exists_eq_left', exists_and_left, Option.map_some, id_eq, decide_true, decide_false, Bool.not_eq_true, ne_eq, not_true_eq_false, not_false_eq_true, dctM_dr, fg_rest, fs_rest, set_dr, drD_len, drD_keys]
      exact last [] f (t + 1) (fun g hg => by simp at hg) hf (by have := ok.t0; omega) (by omega)
    | cons g gs =>
      simp only [ws, wx, wl, wi, opd, prt, tst, val, ownv, startR, w1, w2, wII, wint, wb, bt, opt, sq, sqL, sqi, tyOf, isTy, setp, sets, wsl, cturn, fl, cl, List.map_cons, List.map_nil, List.length_cons, List.length_nil, List.nil_append, List.cons_append, List.append_nil, List.replicate, List.getElem?_cons_zero, List.getElem?_cons_succ, List.getElem?_nil, List.set_cons_zero, List.set_cons_succ, List.set_nil, Nat.zero_add, Nat.reduceAdd, Nat.reduceSub, Nat.sub_self, Nat.reduceLT, Nat.lt_add_one, Nat.zero_lt_succ, true_and, and_true, if_true, if_false, Bool.true_eq, Bool.false_eq_true, reduceIte, isNon, List.all_cons, List.all_nil, List.any_cons, List.any_nil, Bool.and_true, Bool.true_and, Bool.or_false, Bool.false_or, Bool.and_false, Bool.false_and, Bool.or_true, Bool.true_or, Bool.not_true, Bool.not_false, Bool.xor_false, Bool.false_xor, Bool.true_xor, Bool.xor_true, List.isEmpty_nil, List.isEmpty_cons, clr, atI_0, atI_1, atI_2, atI_n1, asBls, asInts, dEq_int, dOk_int, dDep_int, Nat.min_self, decide_eq_true_eq, Nat.zero_le, Nat.not_lt_zero, List.cons.injEq, exists_eq_left', exists_and_left, Option.map_some, id_eq, decide_true, decide_false, Bool.not_eq_true, ne_eq, not_true_eq_false, not_false_eq_true, wpop, lstM_dr, set_great, dctM_dr, fg_rest, fs_rest, set_dr, drD_len, drD_keys]
      exact last gs g t (fun z hz => ok.gs z (by simp [hz])) (ok.gs g (by simp)) ok.t0 (by omega)
  · have e : (r == 0) = false := by simp [r0]
    simp only [e, ws, wx, wl, wi, opd, prt, tst, val, ownv, startR, w1, w2, wII, wint, wb, bt, opt, sq, sqL, sqi, tyOf, isTy, setp, sets, wsl, cturn, fl, cl, List.map_cons, List.map_nil, List.length_cons, List.length_nil, List.nil_append, List.cons_append, List.append_nil, List.replicate, List.getElem?_cons_zero, List.getElem?_cons_succ, List.getElem?_nil, List.set_cons_zero, List.set_cons_succ, List.set_nil, Nat.zero_add, Nat.reduceAdd, Nat.reduceSub, Nat.sub_self, Nat.reduceLT, Nat.lt_add_one, Nat.zero_lt_succ, true_and, and_true, if_true, if_false, Bool.true_eq, Bool.false_eq_true, reduceIte, isNon, List.all_cons, List.all_nil, List.any_cons, List.any_nil, Bool.and_true, Bool.true_and, Bool.or_false, Bool.false_or, Bool.and_false, Bool.false_and, Bool.or_true, Bool.true_or, Bool.not_true, Bool.not_false, Bool.xor_false, Bool.false_xor, Bool.true_xor, Bool.xor_true, List.isEmpty_nil, List.isEmpty_cons, clr, atI_0, atI_1, atI_2, atI_n1, asBls, asInts, dEq_int, dOk_int, dDep_int, Nat.min_self, decide_eq_true_eq, Nat.zero_le, Nat.not_lt_zero, List.cons.injEq, exists_eq_left', exists_and_left, Option.map_some, id_eq, decide_true, decide_false, Bool.not_eq_true, ne_eq, not_true_eq_false, not_false_eq_true, dctM_dr, fg_rest, fs_rest, set_dr, drD_len, drD_keys]
    exact last gs r t ok.gs ok.r ok.t0 (by omega)
theorem p__law_pick (h22 : m.fn 22 = spDraw) (h : spPick.run ds M Q E) : ws m S__law_pick E (startR N__law_pick ds) M { nx := fun _ M' => Q .non M', rt := Q } := by
  obtain ⟨xs, n, rfl, ⟨h0, h1, hn, hd⟩, hq⟩ := h
  have hl : 0 < xs.length := List.length_pos_iff.mpr h0
  simp only [S__law_pick, N__law_pick, ws, wx, wl, wi, opd, prt, tst, val, ownv, startR, w1, w2, wII, wint, wb, bt, opt, sq, sqL, sqi, tyOf, isTy, setp, sets, wsl, cturn, fl, cl, List.map_cons, List.map_nil, List.length_cons, List.length_nil, List.nil_append, List.cons_append, List.append_nil, List.replicate, List.getElem?_cons_zero, List.getElem?_cons_succ, List.getElem?_nil, List.set_cons_zero, List.set_cons_succ, List.set_nil, Nat.zero_add, Nat.reduceAdd, Nat.reduceSub, Nat.sub_self, Nat.reduceLT, Nat.lt_add_one, Nat.zero_lt_succ, true_and, and_true, if_true, if_false, Bool.true_eq, Bool.false_eq_true, reduceIte, isNon, List.all_cons, List.all_nil, List.any_cons, List.any_nil, Bool.and_true, Bool.true_and, Bool.or_false, Bool.false_or, Bool.and_false, Bool.false_and, Bool.or_true, Bool.true_or, Bool.not_true, Bool.not_false, Bool.xor_false, Bool.false_xor, Bool.true_xor, Bool.xor_true, List.isEmpty_nil, List.isEmpty_cons, clr, atI_0, atI_1, atI_2, atI_n1, asBls, asInts, dEq_int, dOk_int, dDep_int, Nat.min_self, decide_eq_true_eq, Nat.zero_le, Nat.not_lt_zero, List.cons.injEq, exists_eq_left', exists_and_left, Option.map_some, id_eq, decide_true, decide_false, Bool.not_eq_true, ne_eq, not_true_eq_false, not_false_eq_true, h22]
  refine ⟨_, n, rfl, ⟨by omega, by omega, hn, hd⟩, fun v M' h1 h2 h3 => ?_⟩
  obtain ⟨k, rfl⟩ := Int.eq_ofNat_of_zero_le h1
  have hk : k < xs.length := by omega
  have e : atI xs (k : Int) = some xs[k] := by rw [PV.atI_nat, List.getElem?_eq_getElem hk]
  simp only [e, ws, wx, wl, wi, opd, prt, tst, val, ownv, startR, w1, w2, wII, wint, wb, bt, opt, sq, sqL, sqi, tyOf, isTy, setp, sets, wsl, cturn, fl, cl, List.map_cons, List.map_nil, List.length_cons, List.length_nil, List.nil_append, List.cons_append, List.append_nil, List.replicate, List.getElem?_cons_zero, List.getElem?_cons_succ, List.getElem?_nil, List.set_cons_zero, List.set_cons_succ, List.set_nil, Nat.zero_add, Nat.reduceAdd, Nat.reduceSub, Nat.sub_self, Nat.reduceLT, Nat.lt_add_one, Nat.zero_lt_succ, true_and, and_true, if_true, if_false, Bool.true_eq, Bool.false_eq_true, reduceIte, isNon, List.all_cons, List.all_nil, List.any_cons, List.any_nil, Bool.and_true, Bool.true_and, Bool.or_false, Bool.false_or, Bool.and_false, Bool.false_and, Bool.or_true, Bool.true_or, Bool.not_true, Bool.not_false, Bool.xor_false, Bool.false_xor, Bool.true_xor, Bool.xor_true, List.isEmpty_nil, List.isEmpty_cons, clr, atI_0, atI_1, atI_2, atI_n1, asBls, asInts, dEq_int, dOk_int, dDep_int, Nat.min_self, decide_eq_true_eq, Nat.zero_le, Nat.not_lt_zero, List.cons.injEq, exists_eq_left', exists_and_left, Option.map_some, id_eq, decide_true, decide_false, Bool.not_eq_true, ne_eq, not_true_eq_false, not_false_eq_true]
  exact hq _ _ (List.getElem_mem hk) h3
end
end K75

set_option Elab.async false
set_option linter.all false
set_option maxRecDepth 100000
set_option maxHeartbeats 4000000
set_option exponentiation.threshold 100000
/-! plain laws: the law's own numbers -/
namespace K75
open PySem PySem.Spec PyProof.Rows L2 PV

def spNumber : PV.Spec where
  run ds M Q E := ∃ n : Nat, ds = [.tok 2, .int 9] ∧ (n < 2 ^ 39 ∧ Dr n M) ∧ ∀ (q : Rat) (d : Nat) M', 1 ≤ d → d ≤ 9 → Fr d 9 q → Dr (n + 4) M' → Q (rD q) M'
  mono := fun ⟨a, h1, h2, h3⟩ q _ => ⟨a, h1, h2, fun x d M a b c e => q _ _ (h3 x d M a b c e)⟩
theorem fr_divInt {n d : Int} {k : Nat} (hd : 0 < d) (hn : n.natAbs ≤ k) : Fr d.toNat k (Rat.divInt n d) := by
  refine ⟨n, hn, ?_⟩
  rw [Rat.divInt_eq_div]
  have e : ((d.toNat : Nat) : Rat) = (d : Rat) := by
    have : ((d.toNat : Nat) : Int) = d := by omega
    rw [← this]; rfl
  have h0 : (d : Rat) ≠ 0 := by
    intro z
    have : d = 0 := by exact_mod_cast z
    omega
  rw [e]
  grind
section
variable {m : Sm} {ds : List D} {M : Ms} {Q : D → Ms → Prop} {E : Ex}
theorem p__law_number (h22 : m.fn 22 = spDraw) (h23 : m.fn 23 = spPick) (h27 : m.fn 27 = spLow) (h : spNumber.run ds M Q E) : ws m S__law_number E (startR N__law_number ds) M { nx := fun _ M' => Q .non M', rt := Q } := by
  obtain ⟨n, rfl, ⟨hn, hd⟩, hq⟩ := h
  simp only [S__law_number, N__law_number, ws, wx, wl, wi, opd, prt, tst, val, ownv, startR, w1, w2, wII, wint, wb, bt, opt, sq, sqL, sqi, tyOf, isTy, setp, sets, wsl, cturn, fl, cl, List.map_cons, List.map_nil, List.length_cons, List.length_nil, List.nil_append, List.cons_append, List.append_nil, List.replicate, List.getElem?_cons_zero, List.getElem?_cons_succ, List.getElem?_nil, List.set_cons_zero, List.set_cons_succ, List.set_nil, Nat.zero_add, Nat.reduceAdd, Nat.reduceSub, Nat.sub_self, Nat.reduceLT, Nat.lt_add_one, Nat.zero_lt_succ, true_and, and_true, if_true, if_false, Bool.true_eq, Bool.false_eq_true, reduceIte, isNon, List.all_cons, List.all_nil, List.any_cons, List.any_nil, Bool.and_true, Bool.true_and, Bool.or_false, Bool.false_or, Bool.and_false, Bool.false_and, Bool.or_true, Bool.true_or, Bool.not_true, Bool.not_false, Bool.xor_false, Bool.false_xor, Bool.true_xor, Bool.xor_true, List.isEmpty_nil, List.isEmpty_cons, clr, atI_0, atI_1, atI_2, atI_n1, asBls, asInts, dEq_int, dOk_int, dDep_int, Nat.min_self, decide_eq_true_eq, Nat.zero_le, Nat.not_lt_zero, List.cons.injEq, exists_eq_left', exists_and_left, Option.map_some, id_eq, decide_true, decide_false, Bool.not_eq_true, ne_eq, not_true_eq_false, not_false_eq_true, h22, h23, h27]
  refine ⟨_, n, rfl, ⟨by decide, by decide, by omega, hd⟩, fun a M1 a0 a1 d1 => ?_⟩
  refine ⟨by decide, _, n + 1, rfl, ⟨by simp, by simp, by omega, d1⟩, fun x M2 hx d2 => ?_⟩
  obtain ⟨room, rfl, r0, r1⟩ : ∃ room : Int, x = .int room ∧ 1 ≤ room ∧ room ≤ 9 := by
    simp only [List.mem_cons, List.not_mem_nil, or_false] at hx
    rcases hx with rfl | rfl | rfl | rfl
    · exact ⟨1, rfl, by decide, by decide⟩
    · exact ⟨1, rfl, by decide, by decide⟩
    · exact ⟨3, rfl, by decide, by decide⟩
    · exact ⟨9, rfl, by decide, by decide⟩
  refine ⟨_, n + 1 + 1, rfl, ⟨by omega, by omega, by omega, d2⟩, fun b M3 b0 b1 d3 => ?_⟩
  simp only [ws, wx, wl, wi, opd, prt, tst, val, ownv, startR, w1, w2, wII, wint, wb, bt, opt, sq, sqL, sqi, tyOf, isTy, setp, sets, wsl, cturn, fl, cl, List.map_cons, List.map_nil, List.length_cons, List.length_nil, List.nil_append, List.cons_append, List.append_nil, List.replicate, List.getElem?_cons_zero, List.getElem?_cons_succ, List.getElem?_nil, List.set_cons_zero, List.set_cons_succ, List.set_nil, Nat.zero_add, Nat.reduceAdd, Nat.reduceSub, Nat.sub_self, Nat.reduceLT, Nat.lt_add_one, Nat.zero_lt_succ, true_and, and_true, if_true, if_false, Bool.true_eq, Bool.false_eq_true, reduceIte, isNon, List.all_cons, List.all_nil, List.any_cons, List.any_nil, Bool.and_true, Bool.true_and, Bool.or_false, Bool.false_or, Bool.and_false, Bool.false_and, Bool.or_true, Bool.true_or, Bool.not_true, Bool.not_false, Bool.xor_false, Bool.false_xor, Bool.true_xor, Bool.xor_true, List.isEmpty_nil, List.isEmpty_cons, clr, atI_0, atI_1, atI_2, atI_n1, asBls, asInts, dEq_int, dOk_int, dDep_int, Nat.min_self, decide_eq_true_eq, Nat.zero_le, Nat.not_lt_zero, List.cons.injEq, exists_eq_left', exists_and_left, Option.map_some, id_eq, decide_true, decide_false, Bool.not_eq_true, ne_eq, not_true_eq_false, not_false_eq_true]
  refine ⟨_, n + 1 + 1 + 1, rfl, ⟨by decide, by decide, by omega, d3⟩, fun c M4 c0 c1 d4 => ?_⟩
  simp only [ws, wx, wl, wi, opd, prt, tst, val, ownv, startR, w1, w2, wII, wint, wb, bt, opt, sq, sqL, sqi, tyOf, isTy, setp, sets, wsl, cturn, fl, cl, List.map_cons, List.map_nil, List.length_cons, List.length_nil, List.nil_append, List.cons_append, List.append_nil, List.replicate, List.getElem?_cons_zero, List.getElem?_cons_succ, List.getElem?_nil, List.set_cons_zero, List.set_cons_succ, List.set_nil, Nat.zero_add, Nat.reduceAdd, Nat.reduceSub, Nat.sub_self, Nat.reduceLT, Nat.lt_add_one, Nat.zero_lt_succ, true_and, and_true, if_true, if_false, Bool.true_eq, Bool.false_eq_true, reduceIte, isNon, List.all_cons, List.all_nil, List.any_cons, List.any_nil, Bool.and_true, Bool.true_and, Bool.or_false, Bool.false_or, Bool.and_false, Bool.false_and, Bool.or_true, Bool.true_or, Bool.not_true, Bool.not_false, Bool.xor_false, Bool.false_xor, Bool.true_xor, Bool.xor_true, List.isEmpty_nil, List.isEmpty_cons, clr, atI_0, atI_1, atI_2, atI_n1, asBls, asInts, dEq_int, dOk_int, dDep_int, Nat.min_self, decide_eq_true_eq, Nat.zero_le, Nat.not_lt_zero, List.cons.injEq, exists_eq_left', exists_and_left, Option.map_some, id_eq, decide_true, decide_false, Bool.not_eq_true, ne_eq, not_true_eq_false, not_false_eq_true]
  have fin : ∀ z : Int, z.natAbs ≤ 9 → spLow.run [.int z, .int (1 + b)] M4 Q E := fun z hz => by
    refine ⟨z, 1 + b, rfl, by omega, ?_, hq _ (1 + b).toNat M4 (by omega) (by omega) (fr_divInt (by omega) hz) d4⟩
    have : (1 + b).natAbs ≤ 9 := by omega
    exact Nat.lt_of_le_of_lt this (Nat.lt_of_lt_of_le (show 9 < 2 ^ 4 by decide) (Nat.pow_le_pow_right (by decide) (by decide)))
  by_cases hc : c = 0
  · subst hc
    simp only [beq_self_eq_true, ws, wx, wl, wi, opd, prt, tst, val, ownv, startR, w1, w2, wII, wint, wb, bt, opt, sq, sqL, sqi, tyOf, isTy, setp, sets, wsl, cturn, fl, cl, List.map_cons, List.map_nil, List.length_cons, List.length_nil, List.nil_append, List.cons_append, List.append_nil, List.replicate, List.getElem?_cons_zero, List.getElem?_cons_succ, List.getElem?_nil, List.set_cons_zero, List.set_cons_succ, List.set_nil, Nat.zero_add, Nat.reduceAdd, Nat.reduceSub, Nat.sub_self, Nat.reduceLT, Nat.lt_add_one, Nat.zero_lt_succ, true_and, and_true, if_true, if_false, Bool.true_eq, Bool.false_eq_true, reduceIte, isNon, List.all_cons, List.all_nil, List.any_cons, List.any_nil, Bool.and_true, Bool.true_and, Bool.or_false, Bool.false_or, Bool.and_false, Bool.false_and, Bool.or_true, Bool.true_or, Bool.not_true, Bool.not_false, Bool.xor_false, Bool.false_xor, Bool.true_xor, Bool.xor_true, List.isEmpty_nil, List.isEmpty_cons, clr, atI_0, atI_1, atI_2, atI_n1, asBls, asInts, dEq_int, dOk_int, dDep_int, Nat.min_self, decide_eq_true_eq, Nat.zero_le, Nat.not_lt_zero, List.cons.injEq, exists_eq_left', exists_and_left, Option.map_some, id_eq, decide_true, decide_false, Bool.not_eq_true, ne_eq, not_true_eq_false, not_false_eq_true]
    exact fin a (by omega)
  · have e : (c == 0) = false := by simp [hc]
    simp only [e, ws, wx, wl, wi, opd, prt, tst, val, ownv, startR, w1, w2, wII, wint, wb, bt, opt, sq, sqL, sqi, tyOf, isTy, setp, sets, wsl, cturn, fl, cl, List.map_cons, List.map_nil, List.length_cons, List.length_nil, List.nil_append, List.cons_append, List.append_nil, List.replicate, List.getElem?_cons_zero, List.getElem?_cons_succ, List.getElem?_nil, List.set_cons_zero, List.set_cons_succ, List.set_nil, Nat.zero_add, Nat.reduceAdd, Nat.reduceSub, Nat.sub_self, Nat.reduceLT, Nat.lt_add_one, Nat.zero_lt_succ, true_and, and_true, if_true, if_false, Bool.true_eq, Bool.false_eq_true, reduceIte, isNon, List.all_cons, List.all_nil, List.any_cons, List.any_nil, Bool.and_true, Bool.true_and, Bool.or_false, Bool.false_or, Bool.and_false, Bool.false_and, Bool.or_true, Bool.true_or, Bool.not_true, Bool.not_false, Bool.xor_false, Bool.false_xor, Bool.true_xor, Bool.xor_true, List.isEmpty_nil, List.isEmpty_cons, clr, atI_0, atI_1, atI_2, atI_n1, asBls, asInts, dEq_int, dOk_int, dDep_int, Nat.min_self, decide_eq_true_eq, Nat.zero_le, Nat.not_lt_zero, List.cons.injEq, exists_eq_left', exists_and_left, Option.map_some, id_eq, decide_true, decide_false, Bool.not_eq_true, ne_eq, not_true_eq_false, not_false_eq_true]
    exact fin (0 - a) (by omega)
theorem p__law_le_square {k : Nat} (h30 : m.fn 30 = spR2 (fun a b => a * b) fun _ _ => True) (h : (∃ q : Rat, ds = [rD q] ∧ Sz 4000 q ∧ Q (rD (q * q)) M)) : ws m S__law_le_square E (startR N__law_le_square ds) M { nx := fun _ M' => Q .non M', rt := Q } := by
  obtain ⟨q, rfl, hz, hq⟩ := h
  simp only [S__law_le_square, N__law_le_square, ws, wx, wl, wi, opd, prt, tst, val, ownv, startR, w1, w2, wII, wint, wb, bt, opt, sq, sqL, sqi, tyOf, isTy, setp, sets, wsl, cturn, fl, cl, List.map_cons, List.map_nil, List.length_cons, List.length_nil, List.nil_append, List.cons_append, List.append_nil, List.replicate, List.getElem?_cons_zero, List.getElem?_cons_succ, List.getElem?_nil, List.set_cons_zero, List.set_cons_succ, List.set_nil, Nat.zero_add, Nat.reduceAdd, Nat.reduceSub, Nat.sub_self, Nat.reduceLT, Nat.lt_add_one, Nat.zero_lt_succ, true_and, and_true, if_true, if_false, Bool.true_eq, Bool.false_eq_true, reduceIte, isNon, List.all_cons, List.all_nil, List.any_cons, List.any_nil, Bool.and_true, Bool.true_and, Bool.or_false, Bool.false_or, Bool.and_false, Bool.false_and, Bool.or_true, Bool.true_or, Bool.not_true, Bool.not_false, Bool.xor_false, Bool.false_xor, Bool.true_xor, Bool.xor_true, List.isEmpty_nil, List.isEmpty_cons, clr, atI_0, atI_1, atI_2, atI_n1, asBls, asInts, dEq_int, dOk_int, dDep_int, Nat.min_self, decide_eq_true_eq, Nat.zero_le, Nat.not_lt_zero, List.cons.injEq, exists_eq_left', exists_and_left, Option.map_some, id_eq, decide_true, decide_false, Bool.not_eq_true, ne_eq, not_true_eq_false, not_false_eq_true, h30]
  exact ⟨_, _, rfl, ⟨hz, hz, trivial⟩, hq⟩
/-- points that rise, over a small denominator -/
structure Pts (ps : List Rat) (N : Nat) : Prop where
  n1 : 1 ≤ N
  n2 : N ≤ 54
  l1 : 1 ≤ ps.length
  l2 : ps.length ≤ 8
  ris : rising ps
  fr : ∀ p ∈ ps, Fr N 10000 p
def spMarks : PV.Spec where
  run ds M Q E := ∃ n : Nat, ds = [.tok 2, .int 8] ∧ (n < 2 ^ 38 ∧ Dr n M) ∧ ∀ (ps : List Rat) (N : Nat) M', Pts ps N → Dr (n + 40) M' → Q (.tup (ps.map rD)) M'
  mono := fun ⟨a, h1, h2, h3⟩ q _ => ⟨a, h1, h2, fun x d M a b => q _ _ (h3 x d M a b)⟩
theorem rising_snoc : ∀ {ps : List Rat} {a : Rat}, rising ps → (∀ p, ps.getLast? = some p → p < a) → rising (ps ++ [a])
  | [], a, _, _ => trivial
  | [p], a, _, h => ⟨h p rfl, trivial⟩
  | p :: q :: ps, a, hr, h => ⟨hr.1, rising_snoc (ps := q :: ps) hr.2 fun z hz => h z (by rw [List.getLast?_cons_cons]; exact hz)⟩
theorem Fr.scaleN {N Z : Nat} {q : Rat} (h : Fr N Z q) {N' k : Nat} (e : N' = N * k) : Fr N' (Z * k) q := by
  subst e
  exact h.scale
def IMk (L n d : Nat) (rest : List D) (r : Ro) (M' : Ms) : Prop := ∃ (done : List Rat) (at_ : Rat) (z : Sl), done.length + rest.length = L ∧ Dr (n + 5 + 3 * done.length) M' ∧ rising done ∧ (∀ p, done.getLast? = some p → p < at_) ∧ (∀ p ∈ done, Fr (6 * d) 10000 p) ∧ Fr (6 * d) (54 + 1080 * done.length) at_ ∧ r = [.val (.tok 2), .val (.int 8), .val (rD at_), .own (done.map rD), z]
theorem p__law_le_marks (h22 : m.fn 22 = spDraw) (h23 : m.fn 23 = spPick) (h27 : m.fn 27 = spLow) (h28 : m.fn 28 = spR2 (fun a b => a + b) fun _ _ => True) (h34 : m.fn 34 = spNumber) (h : spMarks.run ds M Q E) : ws m S__law_le_marks E (startR N__law_le_marks ds) M { nx := fun _ M' => Q .non M', rt := Q } := by
  obtain ⟨n, rfl, ⟨hn, hd⟩, hq⟩ := h
  simp only [S__law_le_marks, N__law_le_marks, ws, wx, wl, wi, opd, prt, tst, val, ownv, startR, w1, w2, wII, wint, wb, bt, opt, sq, sqL, sqi, tyOf, isTy, setp, sets, wsl, cturn, fl, cl, List.map_cons, List.map_nil, List.length_cons, List.length_nil, List.nil_append, List.cons_append, List.append_nil, List.replicate, List.getElem?_cons_zero, List.getElem?_cons_succ, List.getElem?_nil, List.set_cons_zero, List.set_cons_succ, List.set_nil, Nat.zero_add, Nat.reduceAdd, Nat.reduceSub, Nat.sub_self, Nat.reduceLT, Nat.lt_add_one, Nat.zero_lt_succ, true_and, and_true, if_true, if_false, Bool.true_eq, Bool.false_eq_true, reduceIte, isNon, List.all_cons, List.all_nil, List.any_cons, List.any_nil, Bool.and_true, Bool.true_and, Bool.or_false, Bool.false_or, Bool.and_false, Bool.false_and, Bool.or_true, Bool.true_or, Bool.not_true, Bool.not_false, Bool.xor_false, Bool.false_xor, Bool.true_xor, Bool.xor_true, List.isEmpty_nil, List.isEmpty_cons, clr, atI_0, atI_1, atI_2, atI_n1, asBls, asInts, dEq_int, dOk_int, dDep_int, Nat.min_self, decide_eq_true_eq, Nat.zero_le, Nat.not_lt_zero, List.cons.injEq, exists_eq_left', exists_and_left, Option.map_some, id_eq, decide_true, decide_false, Bool.not_eq_true, ne_eq, not_true_eq_false, not_false_eq_true, h22, h34]
  refine ⟨n, rfl, ⟨by omega, hd⟩, fun a0 d M1 d1 d9 fa hd1 => ?_⟩
  refine ⟨_, n + 4, rfl, ⟨by decide, by decide, by omega, hd1⟩, fun laps M2 l0 l1 hd2 => ?_⟩
  simp only [ws, wx, wl, wi, opd, prt, tst, val, ownv, startR, w1, w2, wII, wint, wb, bt, opt, sq, sqL, sqi, tyOf, isTy, setp, sets, wsl, cturn, fl, cl, List.map_cons, List.map_nil, List.length_cons, List.length_nil, List.nil_append, List.cons_append, List.append_nil, List.replicate, List.getElem?_cons_zero, List.getElem?_cons_succ, List.getElem?_nil, List.set_cons_zero, List.set_cons_succ, List.set_nil, Nat.zero_add, Nat.reduceAdd, Nat.reduceSub, Nat.sub_self, Nat.reduceLT, Nat.lt_add_one, Nat.zero_lt_succ, true_and, and_true, if_true, if_false, Bool.true_eq, Bool.false_eq_true, reduceIte, isNon, List.all_cons, List.all_nil, List.any_cons, List.any_nil, Bool.and_true, Bool.true_and, Bool.or_false, Bool.false_or, Bool.and_false, Bool.false_and, Bool.or_true, Bool.true_or, Bool.not_true, Bool.not_false, Bool.xor_false, Bool.false_xor, Bool.true_xor, Bool.xor_true, List.isEmpty_nil, List.isEmpty_cons, clr, atI_0, atI_1, atI_2, atI_n1, asBls, asInts, dEq_int, dOk_int, dDep_int, Nat.min_self, decide_eq_true_eq, Nat.zero_le, Nat.not_lt_zero, List.cons.injEq, exists_eq_left', exists_and_left, Option.map_some, id_eq, decide_true, decide_false, Bool.not_eq_true, ne_eq, not_true_eq_false, not_false_eq_true]
  refine ⟨by unfold line; omega, by unfold line; omega, ?_⟩
  have N0 : 0 < 6 * d := by omega
  have Ns : 6 * d < 2 ^ 6 := by omega
  have szz : ∀ {Z : Nat} {q : Rat}, Z < 2 ^ 20 → Fr (6 * d) Z q → Sz 4000 q := fun hz h => (h.sz (k := 20) N0 (by omega) hz).mono (by decide)
  have fa' : Fr (6 * d) 54 a0 := (fa.scaleN (N' := 6 * d) (k := 6) (by omega)).mono (by omega)
  have hL : (rngD 0 (2 + laps).toNat).length = (2 + laps).toNat := rngD_len _ _
  generalize hLL : (2 + laps).toNat = L at hL ⊢
  have hL8 : 2 ≤ L ∧ L ≤ 8 := by omega
  refine for_inv (m := m) (t := .nm 4) (b := B__law_le_marks_1) (E := E) (IMk L n d)
    ⟨[], a0, .un, by simpa using hL, hd2.mono (by simp), trivial, fun p hp => by simp at hp, fun p hp => by simp at hp, by simpa using fa', rfl⟩ ?_ ?_
  · rintro x rest r M' ⟨done, at_, z, hl, hdr, hris, hlast, hfr, hat, rfl⟩
    simp only [List.length_cons] at hl
    have sat : Sz 4000 at_ := szz (by omega) hat
    simp only [B__law_le_marks_1, ws, wx, wl, wi, opd, prt, tst, val, ownv, startR, w1, w2, wII, wint, wb, bt, opt, sq, sqL, sqi, tyOf, isTy, setp, sets, wsl, cturn, fl, cl, List.map_cons, List.map_nil, List.length_cons, List.length_nil, List.nil_append, List.cons_append, List.append_nil, List.replicate, List.getElem?_cons_zero, List.getElem?_cons_succ, List.getElem?_nil, List.set_cons_zero, List.set_cons_succ, List.set_nil, Nat.zero_add, Nat.reduceAdd, Nat.reduceSub, Nat.sub_self, Nat.reduceLT, Nat.lt_add_one, Nat.zero_lt_succ, true_and, and_true, if_true, if_false, Bool.true_eq, Bool.false_eq_true, reduceIte, isNon, List.all_cons, List.all_nil, List.any_cons, List.any_nil, Bool.and_true, Bool.true_and, Bool.or_false, Bool.false_or, Bool.and_false, Bool.false_and, Bool.or_true, Bool.true_or, Bool.not_true, Bool.not_false, Bool.xor_false, Bool.false_xor, Bool.true_xor, Bool.xor_true, List.isEmpty_nil, List.isEmpty_cons, clr, atI_0, atI_1, atI_2, atI_n1, asBls, asInts, dEq_int, dOk_int, dDep_int, Nat.min_self, decide_eq_true_eq, Nat.zero_le, Nat.not_lt_zero, List.cons.injEq, exists_eq_left', exists_and_left, Option.map_some, id_eq, decide_true, decide_false, Bool.not_eq_true, ne_eq, not_true_eq_false, not_false_eq_true, h22, h23, h27, h28]
    refine ⟨by rw [List.length_map]; unfold line; omega, by decide, _, _, rfl, ⟨by simp, by simp, by omega, hdr⟩, fun pk M3 hpk hd3 => ?_⟩
    obtain ⟨room, rfl, r0, r1⟩ : ∃ room : Int, pk = .int room ∧ 1 ≤ room ∧ room ≤ 20 := by
      simp only [List.mem_cons, List.not_mem_nil, or_false] at hpk
      rcases hpk with rfl | rfl | rfl
      · exact ⟨1, rfl, by decide, by decide⟩
      · exact ⟨5, rfl, by decide, by decide⟩
      · exact ⟨20, rfl, by decide, by decide⟩
    refine ⟨_, _, rfl, ⟨by omega, by omega, by omega, hd3⟩, fun b M4 b0 b1 hd4 => ?_⟩
    simp only [ws, wx, wl, wi, opd, prt, tst, val, ownv, startR, w1, w2, wII, wint, wb, bt, opt, sq, sqL, sqi, tyOf, isTy, setp, sets, wsl, cturn, fl, cl, List.map_cons, List.map_nil, List.length_cons, List.length_nil, List.nil_append, List.cons_append, List.append_nil, List.replicate, List.getElem?_cons_zero, List.getElem?_cons_succ, List.getElem?_nil, List.set_cons_zero, List.set_cons_succ, List.set_nil, Nat.zero_add, Nat.reduceAdd, Nat.reduceSub, Nat.sub_self, Nat.reduceLT, Nat.lt_add_one, Nat.zero_lt_succ, true_and, and_true, if_true, if_false, Bool.true_eq, Bool.false_eq_true, reduceIte, isNon, List.all_cons, List.all_nil, List.any_cons, List.any_nil, Bool.and_true, Bool.true_and, Bool.or_false, Bool.false_or, Bool.and_false, Bool.false_and, Bool.or_true, Bool.true_or, Bool.not_true, Bool.not_false, Bool.xor_false, Bool.false_xor, Bool.true_xor, Bool.xor_true, List.isEmpty_nil, List.isEmpty_cons, clr, atI_0, atI_1, atI_2, atI_n1, asBls, asInts, dEq_int, dOk_int, dDep_int, Nat.min_self, decide_eq_true_eq, Nat.zero_le, Nat.not_lt_zero, List.cons.injEq, exists_eq_left', exists_and_left, Option.map_some, id_eq, decide_true, decide_false, Bool.not_eq_true, ne_eq, not_true_eq_false, not_false_eq_true]
    refine ⟨by decide, _, _, rfl, ⟨by simp, by simp, by omega, hd4⟩, fun pk M5 hpk hd5 => ?_⟩
    obtain ⟨c, rfl, c1, c2, k, ck⟩ : ∃ c : Int, pk = .int c ∧ 1 ≤ c ∧ c ≤ 3 ∧ ∃ k : Nat, 6 * d = c.toNat * k := by
      simp only [List.mem_cons, List.not_mem_nil, or_false] at hpk
      rcases hpk with rfl | rfl | rfl | rfl
      · exact ⟨1, rfl, by decide, by decide, 6 * d, by simp⟩
      · exact ⟨1, rfl, by decide, by decide, 6 * d, by simp⟩
      · exact ⟨2, rfl, by decide, by decide, 3 * d, by simp; omega⟩
      · exact ⟨3, rfl, by decide, by decide, 2 * d, by simp; omega⟩
    have hcs : c.natAbs < 2 ^ 8100 := Nat.lt_of_lt_of_le (show c.natAbs < 2 ^ 4 by omega) (Nat.pow_le_pow_right (by decide) (by decide))
    have kb : k ≤ 54 := by
      have : 1 * k ≤ c.toNat * k := Nat.mul_le_mul_right _ (by omega)
      omega
    have fq : Fr (6 * d) 1080 (Rat.divInt (1 + b) c) := by
      have h1 := (fr_divInt (n := 1 + b) (d := c) (k := 20) (by omega) (by omega)).scaleN (N' := 6 * d) ck
      exact h1.mono (by omega)
    have qpos : 0 < Rat.divInt (1 + b) c := by
      rw [Rat.divInt_eq_div, Rat.lt_div_iff (Rat.intCast_pos.mpr (by omega)), Rat.zero_mul]
      exact Rat.intCast_pos.mpr (by omega)
    refine ⟨1 + b, c, rfl, by omega, hcs, ?_⟩
    refine ⟨at_, _, rfl, ⟨sat, szz (by decide) fq, trivial⟩, done ++ [at_], at_ + Rat.divInt (1 + b) c, .val x, by simp; omega, hd5.mono (by simp; omega), rising_snoc hris hlast, fun p hp => ?_, fun p hp => ?_, ?_, ?_⟩
    · rw [List.getLast?_concat] at hp
      cases hp
      grind
    · rcases List.mem_append.mp hp with hp | hp
      · exact hfr p hp
      · rw [List.mem_singleton.mp hp]
        exact hat.mono (by omega)
    · have := hat.add fq
      rw [List.length_append, List.length_singleton]
      exact this.mono (by omega)
    · rw [List.map_append]; rfl
  · rintro r M' ⟨done, at_, z, hl, hdr, hris, hlast, hfr, hat, rfl⟩
    simp only [List.length_nil, Nat.add_zero] at hl
    simp only [ws, wx, wl, wi, opd, prt, tst, val, ownv, startR, w1, w2, wII, wint, wb, bt, opt, sq, sqL, sqi, tyOf, isTy, setp, sets, wsl, cturn, fl, cl, List.map_cons, List.map_nil, List.length_cons, List.length_nil, List.nil_append, List.cons_append, List.append_nil, List.replicate, List.getElem?_cons_zero, List.getElem?_cons_succ, List.getElem?_nil, List.set_cons_zero, List.set_cons_succ, List.set_nil, Nat.zero_add, Nat.reduceAdd, Nat.reduceSub, Nat.sub_self, Nat.reduceLT, Nat.lt_add_one, Nat.zero_lt_succ, true_and, and_true, if_true, if_false, Bool.true_eq, Bool.false_eq_true, reduceIte, isNon, List.all_cons, List.all_nil, List.any_cons, List.any_nil, Bool.and_true, Bool.true_and, Bool.or_false, Bool.false_or, Bool.and_false, Bool.false_and, Bool.or_true, Bool.true_or, Bool.not_true, Bool.not_false, Bool.xor_false, Bool.false_xor, Bool.true_xor, Bool.xor_true, List.isEmpty_nil, List.isEmpty_cons, clr, atI_0, atI_1, atI_2, atI_n1, asBls, asInts, dEq_int, dOk_int, dDep_int, Nat.min_self, decide_eq_true_eq, Nat.zero_le, Nat.not_lt_zero, List.cons.injEq, exists_eq_left', exists_and_left, Option.map_some, id_eq, decide_true, decide_false, Bool.not_eq_true, ne_eq, not_true_eq_false, not_false_eq_true]
    exact hq done (6 * d) M' ⟨by omega, by omega, by omega, by omega, hris, hfr⟩ (hdr.mono (by omega))
end
end K75

set_option Elab.async false
set_option linter.all false
set_option maxRecDepth 100000
set_option maxHeartbeats 4000000
set_option exponentiation.threshold 100000
/-! plain laws: the law's numbers with chances -/
namespace K75
open PySem PySem.Spec PyProof.Rows L2 PV

structure Gen (l : List (Rat × Rat)) : Prop where
  vn : VN l
  sz : ∃ N S : Nat, 1 ≤ N ∧ N ≤ 54 ∧ 1 ≤ S ∧ S ≤ 240 ∧ ∀ p ∈ l, Fr N 10000 p.1 ∧ Fr S S p.2
def spNums : PV.Spec where
  run ds M Q E := ∃ n : Nat, ds = [.tok 2, .int 8] ∧ (n < 2 ^ 37 ∧ Dr n M) ∧ ∀ (l : List (Rat × Rat)) M', Gen l → Dr (n + 80) M' → Q (numD l) M'
  mono := fun ⟨a, h1, h2, h3⟩ q _ => ⟨a, h1, h2, fun l M a b => q _ _ (h3 l M a b)⟩
theorem asInts_map : ∀ ks : List Int, asInts (ks.map .int) = some ks
  | [] => rfl
  | k :: ks => by
    show (asInts (ks.map .int)).map (k :: ·) = _
    rw [asInts_map ks]; rfl
theorem zipD_map {α β : Type} (f : α → D) (g : β → D) : ∀ (xs : List α) (ys : List β), zipD (xs.map f) (ys.map g) = (xs.zip ys).map fun p => .tup [f p.1, g p.2]
  | [], _ => by simp [zipD]
  | _ :: _, [] => by simp [zipD]
  | x :: xs, y :: ys => by
    simp only [List.map_cons, List.zip_cons_cons]
    show D.tup [f x, g y] :: zipD (xs.map f) (ys.map g) = _
    rw [zipD_map f g xs ys]
theorem sum_ge : ∀ {ks : List Int}, (∀ k ∈ ks, 1 ≤ k) → ∀ k ∈ ks, k ≤ ks.sum
  | [], _, _, h => by simp at h
  | x :: xs, h, k, hk => by
    have h0 : 0 ≤ xs.sum := by
      have : ∀ {l : List Int}, (∀ k ∈ l, 1 ≤ k) → 0 ≤ l.sum := by
        intro l
        induction l with
        | nil => intro _; simp
        | cons a l ih =>
          intro h
          have h1 := h a (by simp)
          have h2 := ih fun k hk => h k (by simp [hk])
          rw [List.sum_cons]; omega
      exact this fun k hk => h k (by simp [hk])
    rw [List.sum_cons]
    rcases List.mem_cons.mp hk with rfl | hk
    · omega
    · have := sum_ge (fun k hk => h k (by simp [hk])) k hk
      have := h x (by simp)
      omega
theorem sum_le : ∀ {ks : List Int}, (∀ k ∈ ks, k ≤ 30) → ks.sum ≤ 30 * ks.length
  | [], _ => by simp
  | x :: xs, h => by
    have h1 := h x (by simp)
    have h2 := sum_le (ks := xs) fun k hk => h k (by simp [hk])
    rw [List.sum_cons, List.length_cons]
    omega
theorem sum_div {S : Int} (h0 : S ≠ 0) : ∀ ks : List Int, (ks.map fun k => Rat.divInt k S).sum = Rat.divInt ks.sum S
  | [] => by
    simp only [List.map_nil, List.sum_nil, Rat.divInt_eq_div]
    rw [Rat.div_def]
    exact (Rat.zero_mul _).symm
  | k :: ks => by
    rw [List.map_cons, List.sum_cons, sum_div h0 ks, List.sum_cons, Rat.divInt_eq_div, Rat.divInt_eq_div, Rat.divInt_eq_div, Rat.intCast_add]
    have : (S : Rat) ≠ 0 := by
      intro z
      exact h0 (by exact_mod_cast z)
    grind
theorem snd_zip {α β γ : Type} (f : β → γ) : ∀ (xs : List α) (ys : List β), xs.length = ys.length → (xs.zip ys).map (fun p => f p.2) = ys.map f
  | [], [], _ => rfl
  | [], _ :: _, h => by simp at h
  | _ :: _, [], h => by simp at h
  | x :: xs, y :: ys, h => by
    simp only [List.zip_cons_cons, List.map_cons]
    rw [snd_zip f xs ys (by simpa using h)]
theorem fst_zip {α β : Type} : ∀ (xs : List α) (ys : List β), xs.length = ys.length → (xs.zip ys).map (fun p => p.1) = xs
  | [], [], _ => rfl
  | [], _ :: _, h => by simp at h
  | _ :: _, [], h => by simp at h
  | x :: xs, y :: ys, h => by
    simp only [List.zip_cons_cons, List.map_cons]
    rw [fst_zip xs ys (by simpa using h)]
theorem gen_of {ps : List Rat} {N : Nat} {ks : List Int} (hp : Pts ps N) (hl : ps.length = ks.length) (hk : ∀ k ∈ ks, 1 ≤ k ∧ k ≤ 30) : Gen ((ps.zip ks).map fun p => (p.1, Rat.divInt p.2 ks.sum)) := by
  have h1 : ∀ k ∈ ks, 1 ≤ k := fun k h => (hk k h).1
  have hlen := hp.l1
  have hlen8 := hp.l2
  have S1 : 1 ≤ ks.sum := by
    match ks, hl with
    | [], hl => rw [hl] at hlen; simp at hlen
    | k :: ks, _ =>
      have := sum_ge h1 k (by simp)
      have := h1 k (by simp)
      omega
  have S2 : ks.sum ≤ 240 := by
    have := sum_le fun k h => (hk k h).2
    omega
  have zl : (ps.zip ks).length = ps.length := by rw [List.length_zip]; omega
  have Spos : (0 : Rat) < (ks.sum : Rat) := Rat.intCast_pos.mpr (by omega)
  refine ⟨⟨by rw [List.length_map, zl]; exact hlen, by rw [List.length_map, zl]; exact hlen8, fun p hpm => ?_, ?_, ?_⟩, N, ks.sum.toNat, hp.n1, hp.n2, by omega, by omega, fun p hpm => ?_⟩
  · obtain ⟨z, hz, rfl⟩ := List.mem_map.mp hpm
    have hz2 := (List.of_mem_zip hz).2
    have k1 := h1 _ hz2
    have k2 := sum_ge h1 _ hz2
    refine ⟨?_, ?_⟩
    · show 0 < Rat.divInt z.2 ks.sum
      rw [Rat.divInt_eq_div, Rat.lt_div_iff Spos, Rat.zero_mul]
      exact Rat.intCast_pos.mpr (by omega)
    · show Rat.divInt z.2 ks.sum ≤ 1
      rw [Rat.divInt_eq_div]
      have h3 : ((z.2 : Int) : Rat) ≤ ((ks.sum : Int) : Rat) := by exact_mod_cast k2
      by_cases hc : (z.2 : Rat) / (ks.sum : Rat) ≤ 1
      · exact hc
      · have hc : 1 < (z.2 : Rat) / (ks.sum : Rat) := by grind
        rw [Rat.lt_div_iff Spos] at hc
        grind
  · rw [List.map_map]
    show rising ((ps.zip ks).map fun p => p.1)
    rw [fst_zip ps ks hl]; exact hp.ris
  · rw [List.map_map]
    show ((ps.zip ks).map fun p => Rat.divInt p.2 ks.sum).sum = 1
    rw [snd_zip (fun k => Rat.divInt k ks.sum) ps ks hl, sum_div (by omega)]
    rw [Rat.divInt_self' (by omega)]
  · obtain ⟨z, hz, rfl⟩ := List.mem_map.mp hpm
    obtain ⟨hz1, hz2⟩ := List.of_mem_zip hz
    refine ⟨hp.fr _ hz1, ?_⟩
    have k1 := h1 _ hz2
    have k2 := sum_ge h1 _ hz2
    exact fr_divInt (by omega) (by omega)
def IPt (L n : Nat) (rest acc : List D) (M : Ms) : Prop := ∃ ks : List Int, acc = ks.map .int ∧ ks.length + rest.length = L ∧ (∀ k ∈ ks, 1 ≤ k ∧ k ≤ 30) ∧ Dr (n + 2 * ks.length) M
def sFst : S → S
  | .seq a _ => a
  | s => s
def sSnd : S → S
  | .seq _ b => b
  | s => s
section
variable {m : Sm} {ds : List D} {M : Ms} {Q : D → Ms → Prop} {E : Ex}
theorem p__law_le_numbers (h22 : m.fn 22 = spDraw) (h23 : m.fn 23 = spPick) (h27 : m.fn 27 = spLow) (h34 : m.fn 34 = spNumber) (h35 : m.fn 35 = spMarks) (h : spNums.run ds M Q E) : ws m S__law_le_numbers E (startR N__law_le_numbers ds) M { nx := fun _ M' => Q .non M', rt := Q } := by
  obtain ⟨n, rfl, ⟨hn, hd⟩, hq⟩ := h
  have hrest : ∀ (ps : List Rat) (N : Nat) (M1 : Ms), Pts ps N → Dr (n + 50) M1 → ws m (sSnd S__law_le_numbers) E [.val (.tok 2), .val (.int 8), .val (.tup (ps.map rD)), .un, .un, .un] M1 { nx := fun _ M' => Q .non M', rt := Q } := fun ps N M1 hp hd1 => by
    have l8 := hp.l2
    simp only [S__law_le_numbers, sSnd, ws, wx, wl, wi, opd, prt, tst, val, ownv, startR, w1, w2, wII, wint, wb, bt, opt, sq, sqL, sqi, tyOf, isTy, setp, sets, wsl, cturn, fl, cl, List.map_cons, List.map_nil, List.length_cons, List.length_nil, List.nil_append, List.cons_append, List.append_nil, List.replicate, List.getElem?_cons_zero, List.getElem?_cons_succ, List.getElem?_nil, List.set_cons_zero, List.set_cons_succ, List.set_nil, Nat.zero_add, Nat.reduceAdd, Nat.reduceSub, Nat.sub_self, Nat.reduceLT, Nat.lt_add_one, Nat.zero_lt_succ, true_and, and_true, if_true, if_false, Bool.true_eq, Bool.false_eq_true, reduceIte, isNon, List.all_cons, List.all_nil, List.any_cons, List.any_nil, Bool.and_true, Bool.true_and, Bool.or_false, Bool.false_or, Bool.and_false, Bool.false_and, Bool.or_true, Bool.true_or, Bool.not_true, Bool.not_false, Bool.xor_false, Bool.false_xor, Bool.true_xor, Bool.xor_true, List.isEmpty_nil, List.isEmpty_cons, clr, atI_0, atI_1, atI_2, atI_n1, asBls, asInts, dEq_int, dOk_int, dDep_int, Nat.min_self, decide_eq_true_eq, Nat.zero_le, Nat.not_lt_zero, List.cons.injEq, exists_eq_left', exists_and_left, Option.map_some, id_eq, decide_true, decide_false, Bool.not_eq_true, ne_eq, not_true_eq_false, not_false_eq_true]
    refine ⟨by rw [List.length_map]; unfold line; omega, cl_inv (IPt ps.length (n + 50)) ⟨[], rfl, by simp, fun k hk => by simp at hk, by simpa using hd1⟩ (fun x rest acc M2 hI => ?_) (fun acc M2 hI => ?_) (fun d M k k' h q => cturn_mono' (m := m) (own := [4]) (t := .nm 4) (r := [.val (.tok 2), .val (.int 8), .val (.tup (ps.map rD)), .un, .un, .un]) (c := .nil) (e := .p2 .add (.int 1) (.call 22 (.cons (.v 0) (.cons (.call 23 (.cons (.v 0) (.cons (.lst (.cons (.int 1) (.cons (.int 3) (.cons (.int 30) .nil)))) .nil))) .nil)))) d M k k' h q)⟩
    · obtain ⟨ks, rfl, hl, hk, hd2⟩ := hI
      simp only [List.length_cons] at hl
      simp only [ws, wx, wl, wi, opd, prt, tst, val, ownv, startR, w1, w2, wII, wint, wb, bt, opt, sq, sqL, sqi, tyOf, isTy, setp, sets, wsl, cturn, fl, cl, List.map_cons, List.map_nil, List.length_cons, List.length_nil, List.nil_append, List.cons_append, List.append_nil, List.replicate, List.getElem?_cons_zero, List.getElem?_cons_succ, List.getElem?_nil, List.set_cons_zero, List.set_cons_succ, List.set_nil, Nat.zero_add, Nat.reduceAdd, Nat.reduceSub, Nat.sub_self, Nat.reduceLT, Nat.lt_add_one, Nat.zero_lt_succ, true_and, and_true, if_true, if_false, Bool.true_eq, Bool.false_eq_true, reduceIte, isNon, List.all_cons, List.all_nil, List.any_cons, List.any_nil, Bool.and_true, Bool.true_and, Bool.or_false, Bool.false_or, Bool.and_false, Bool.false_and, Bool.or_true, Bool.true_or, Bool.not_true, Bool.not_false, Bool.xor_false, Bool.false_xor, Bool.true_xor, Bool.xor_true, List.isEmpty_nil, List.isEmpty_cons, clr, atI_0, atI_1, atI_2, atI_n1, asBls, asInts, dEq_int, dOk_int, dDep_int, Nat.min_self, decide_eq_true_eq, Nat.zero_le, Nat.not_lt_zero, List.cons.injEq, exists_eq_left', exists_and_left, Option.map_some, id_eq, decide_true, decide_false, Bool.not_eq_true, ne_eq, not_true_eq_false, not_false_eq_true, h22, h23]
      refine ⟨by decide, _, _, rfl, ⟨by simp, by simp, by omega, hd2⟩, fun pk M3 hpk hd3 => ?_⟩
      obtain ⟨room, rfl, r0, r1⟩ : ∃ room : Int, pk = .int room ∧ 1 ≤ room ∧ room ≤ 30 := by
        simp only [List.mem_cons, List.not_mem_nil, or_false] at hpk
        rcases hpk with rfl | rfl | rfl
        · exact ⟨1, rfl, by decide, by decide⟩
        · exact ⟨3, rfl, by decide, by decide⟩
        · exact ⟨30, rfl, by decide, by decide⟩
      refine ⟨_, _, rfl, ⟨by omega, by omega, by omega, hd3⟩, fun b M4 b0 b1 hd4 => ?_⟩
      exact ⟨ks ++ [1 + b], by rw [List.map_append]; rfl, by simp; omega, fun k hkm => by
        rcases List.mem_append.mp hkm with hkm | hkm
        · exact hk k hkm
        · rw [List.mem_singleton.mp hkm]; omega, hd4.mono (by simp; omega)⟩
    · obtain ⟨ks, rfl, hl, hk, hd2⟩ := hI
      simp only [List.length_nil, Nat.add_zero] at hl
      have g := gen_of hp hl.symm hk
      have S1 : 1 ≤ ks.sum := by
        match ks, hl, hk with
        | [], hl, _ => have := hp.l1; simp at hl; omega
        | k :: ks, _, hk =>
          have h1 := sum_ge (ks := k :: ks) (fun k h => (hk k h).1) k (by simp)
          have := (hk k (by simp)).1
          omega
      have S2 : ks.sum ≤ 30 * ks.length := sum_le fun k h => (hk k h).2
      have S3 : ks.sum.natAbs < 2 ^ 8100 := Nat.lt_of_lt_of_le (show ks.sum.natAbs < 2 ^ 10 by omega) (Nat.pow_le_pow_right (by decide) (by decide))
      simp only [ws, wx, wl, wi, opd, prt, tst, val, ownv, startR, w1, w2, wII, wint, wb, bt, opt, sq, sqL, sqi, tyOf, isTy, setp, sets, wsl, cturn, fl, cl, List.map_cons, List.map_nil, List.length_cons, List.length_nil, List.nil_append, List.cons_append, List.append_nil, List.replicate, List.getElem?_cons_zero, List.getElem?_cons_succ, List.getElem?_nil, List.set_cons_zero, List.set_cons_succ, List.set_nil, Nat.zero_add, Nat.reduceAdd, Nat.reduceSub, Nat.sub_self, Nat.reduceLT, Nat.lt_add_one, Nat.zero_lt_succ, true_and, and_true, if_true, if_false, Bool.true_eq, Bool.false_eq_true, reduceIte, isNon, List.all_cons, List.all_nil, List.any_cons, List.any_nil, Bool.and_true, Bool.true_and, Bool.or_false, Bool.false_or, Bool.and_false, Bool.false_and, Bool.or_true, Bool.true_or, Bool.not_true, Bool.not_false, Bool.xor_false, Bool.false_xor, Bool.true_xor, Bool.xor_true, List.isEmpty_nil, List.isEmpty_cons, clr, atI_0, atI_1, atI_2, atI_n1, asBls, asInts, dEq_int, dOk_int, dDep_int, Nat.min_self, decide_eq_true_eq, Nat.zero_le, Nat.not_lt_zero, List.cons.injEq, exists_eq_left', exists_and_left, Option.map_some, id_eq, decide_true, decide_false, Bool.not_eq_true, ne_eq, not_true_eq_false, not_false_eq_true, zipD_map rD D.int]
      refine ⟨by rw [List.length_map, List.length_zip]; unfold line; omega, cl_map _ (fun p => some (pD (p.1, Rat.divInt p.2 ks.sum))) (fun p hpm K hK => ?_) ?_⟩
      · simp only [ws, wx, wl, wi, opd, prt, tst, val, ownv, startR, w1, w2, wII, wint, wb, bt, opt, sq, sqL, sqi, tyOf, isTy, setp, sets, wsl, cturn, fl, cl, List.map_cons, List.map_nil, List.length_cons, List.length_nil, List.nil_append, List.cons_append, List.append_nil, List.replicate, List.getElem?_cons_zero, List.getElem?_cons_succ, List.getElem?_nil, List.set_cons_zero, List.set_cons_succ, List.set_nil, Nat.zero_add, Nat.reduceAdd, Nat.reduceSub, Nat.sub_self, Nat.reduceLT, Nat.lt_add_one, Nat.zero_lt_succ, true_and, and_true, if_true, if_false, Bool.true_eq, Bool.false_eq_true, reduceIte, isNon, List.all_cons, List.all_nil, List.any_cons, List.any_nil, Bool.and_true, Bool.true_and, Bool.or_false, Bool.false_or, Bool.and_false, Bool.false_and, Bool.or_true, Bool.true_or, Bool.not_true, Bool.not_false, Bool.xor_false, Bool.false_xor, Bool.true_xor, Bool.xor_true, List.isEmpty_nil, List.isEmpty_cons, clr, atI_0, atI_1, atI_2, atI_n1, asBls, asInts, dEq_int, dOk_int, dDep_int, Nat.min_self, decide_eq_true_eq, Nat.zero_le, Nat.not_lt_zero, List.cons.injEq, exists_eq_left', exists_and_left, Option.map_some, id_eq, decide_true, decide_false, Bool.not_eq_true, ne_eq, not_true_eq_false, not_false_eq_true, asInts_map, h27]
        exact ⟨by simp, _, _, rfl, by omega, S3, by decide, hK⟩
      · rw [fm_some]
        have e : [] ++ (ps.zip ks).map (fun p => pD (p.1, Rat.divInt p.2 ks.sum)) = ((ps.zip ks).map fun p => (p.1, Rat.divInt p.2 ks.sum)).map pD := by
          rw [List.nil_append, List.map_map]; rfl
        rw [e]
        exact hq _ M2 g (hd2.mono (by omega))
  revert hrest
  show _ → ws m (sFst S__law_le_numbers) E (startR N__law_le_numbers [.tok 2, .int 8]) M { nx := fun r' M' => ws m (sSnd S__law_le_numbers) E r' M' { nx := fun _ M' => Q .non M', rt := Q }, rt := Q, bk := fun _ _ => False, ct := fun _ _ => False }
  generalize sSnd S__law_le_numbers = R
  intro hrest
  simp only [S__law_le_numbers, N__law_le_numbers, sFst, ws, wx, wl, wi, opd, prt, tst, val, ownv, startR, w1, w2, wII, wint, wb, bt, opt, sq, sqL, sqi, tyOf, isTy, setp, sets, wsl, cturn, fl, cl, List.map_cons, List.map_nil, List.length_cons, List.length_nil, List.nil_append, List.cons_append, List.append_nil, List.replicate, List.getElem?_cons_zero, List.getElem?_cons_succ, List.getElem?_nil, List.set_cons_zero, List.set_cons_succ, List.set_nil, Nat.zero_add, Nat.reduceAdd, Nat.reduceSub, Nat.sub_self, Nat.reduceLT, Nat.lt_add_one, Nat.zero_lt_succ, true_and, and_true, if_true, if_false, Bool.true_eq, Bool.false_eq_true, reduceIte, isNon, List.all_cons, List.all_nil, List.any_cons, List.any_nil, Bool.and_true, Bool.true_and, Bool.or_false, Bool.false_or, Bool.and_false, Bool.false_and, Bool.or_true, Bool.true_or, Bool.not_true, Bool.not_false, Bool.xor_false, Bool.false_xor, Bool.true_xor, Bool.xor_true, List.isEmpty_nil, List.isEmpty_cons, clr, atI_0, atI_1, atI_2, atI_n1, asBls, asInts, dEq_int, dOk_int, dDep_int, Nat.min_self, decide_eq_true_eq, Nat.zero_le, Nat.not_lt_zero, List.cons.injEq, exists_eq_left', exists_and_left, Option.map_some, id_eq, decide_true, decide_false, Bool.not_eq_true, ne_eq, not_true_eq_false, not_false_eq_true, h22, h34, h35]
  refine ⟨_, n, rfl, ⟨by decide, by decide, by omega, hd⟩, fun v M1 v0 v1 hd1 => ?_⟩
  simp only [ws, wx, wl, wi, opd, prt, tst, val, ownv, startR, w1, w2, wII, wint, wb, bt, opt, sq, sqL, sqi, tyOf, isTy, setp, sets, wsl, cturn, fl, cl, List.map_cons, List.map_nil, List.length_cons, List.length_nil, List.nil_append, List.cons_append, List.append_nil, List.replicate, List.getElem?_cons_zero, List.getElem?_cons_succ, List.getElem?_nil, List.set_cons_zero, List.set_cons_succ, List.set_nil, Nat.zero_add, Nat.reduceAdd, Nat.reduceSub, Nat.sub_self, Nat.reduceLT, Nat.lt_add_one, Nat.zero_lt_succ, true_and, and_true, if_true, if_false, Bool.true_eq, Bool.false_eq_true, reduceIte, isNon, List.all_cons, List.all_nil, List.any_cons, List.any_nil, Bool.and_true, Bool.true_and, Bool.or_false, Bool.false_or, Bool.and_false, Bool.false_and, Bool.or_true, Bool.true_or, Bool.not_true, Bool.not_false, Bool.xor_false, Bool.false_xor, Bool.true_xor, Bool.xor_true, List.isEmpty_nil, List.isEmpty_cons, clr, atI_0, atI_1, atI_2, atI_n1, asBls, asInts, dEq_int, dOk_int, dDep_int, Nat.min_self, decide_eq_true_eq, Nat.zero_le, Nat.not_lt_zero, List.cons.injEq, exists_eq_left', exists_and_left, Option.map_some, id_eq, decide_true, decide_false, Bool.not_eq_true, ne_eq, not_true_eq_false, not_false_eq_true]
  by_cases hv : 0 < v
  · simp only [if_pos hv]
    exact ⟨n + 1, rfl, ⟨by omega, hd1⟩, fun ps N M2 hp hd2 => hrest ps N M2 hp (hd2.mono (by omega))⟩
  · simp only [if_neg hv]
    refine ⟨n + 1, rfl, ⟨by omega, hd1⟩, fun q d M2 d1 d9 fq hd2 => ?_⟩
    exact ⟨by decide, hrest [q] d M2 ⟨d1, by omega, by simp, by simp, trivial, fun p hp => by rw [List.mem_singleton.mp hp]; exact fq.mono (by decide)⟩ (hd2.mono (by omega))⟩
end
end K75

set_option Elab.async false
set_option linter.all false
set_option maxRecDepth 100000
set_option maxHeartbeats 4000000
set_option exponentiation.threshold 100000
/-! plain laws: off, kind, same -/
namespace K75
open PySem PySem.Spec PyProof.Rows L2 PV

def offOf (l : List (Rat × Rat)) (mn : Rat) : List (Rat × Rat) := l.map fun p => (p.1 - mn, p.2)
def spOff : PV.Spec where
  run ds M Q E := ∃ (l : List (Rat × Rat)) (mn : Rat), ds = [numD l, rD mn] ∧ (l.length ≤ 1000 ∧ Sz 4000 mn ∧ ∀ p ∈ l, Sz 4000 p.1) ∧ Q (.lst ((offOf l mn).map pD)) M
  mono := fun ⟨a, b, h1, h2, h3⟩ q _ => ⟨a, b, h1, h2, q _ _ h3⟩
def spKind : PV.Spec where
  run ds M Q E := ∃ k : Nat, ds = [.exc k []] ∧ (1 ≤ k ∧ k ≤ 3) ∧ Q (.lst [.int ((k : Int) - 1)]) M
  mono := fun ⟨a, h1, h2, h3⟩ q _ => ⟨a, h1, h2, q _ _ h3⟩
mutual
/-- data of ints, tuples, lists -/
def pd : D → Bool
  | .int _ => true
  | .tup xs => pds xs
  | .lst xs => pds xs
  | _ => false
def pds : List D → Bool
  | [] => true
  | x :: xs => pd x && pds xs
end
mutual
def siz : D → Nat
  | .tup xs => 1 + sizs xs
  | .lst xs => 1 + sizs xs
  | _ => 1
def sizs : List D → Nat
  | [] => 0
  | x :: xs => siz x + sizs xs
end
mutual
theorem pd_ok : ∀ (d : D), pd d = true → dOk d = true
  | .int _, _ => rfl
  | .tup xs, h => pds_ok xs h
  | .lst xs, h => pds_ok xs h
  | .non, h => by cases h
  | .bl _, h => by cases h
  | .str _, h => by cases h
  | .scr _, h => by cases h
  | .fn _, h => by cases h
  | .exc _ _, h => by cases h
  | .tok _, h => by cases h
theorem pds_ok : ∀ (ds : List D), pds ds = true → dOks ds = true
  | [], _ => rfl
  | d :: ds, h => by
    have h' : (pd d && pds ds) = true := h
    rw [Bool.and_eq_true] at h'
    show (dOk d && dOks ds) = true
    rw [pd_ok d h'.1, pds_ok ds h'.2]; rfl
end
theorem pds_mem : ∀ {xs : List D} {x : D}, pds xs = true → x ∈ xs → pd x = true
  | [], _, _, h => by simp at h
  | y :: ys, x, h, hm => by
    have h : (pd y && pds ys) = true := h
    rw [Bool.and_eq_true] at h
    rcases List.mem_cons.mp hm with rfl | hm
    · exact h.1
    · exact pds_mem h.2 hm
theorem pds_of : ∀ {xs : List D}, (∀ x ∈ xs, pd x = true) → pds xs = true
  | [], _ => rfl
  | y :: ys, h => by
    show (pd y && pds ys) = true
    rw [h y (by simp), pds_of (xs := ys) fun x hx => h x (by simp [hx])]; rfl
theorem sizs_app : ∀ (xs ys : List D), sizs (xs ++ ys) = sizs xs + sizs ys
  | [], ys => by simp [sizs]
  | x :: xs, ys => by
    show siz x + sizs (xs ++ ys) = siz x + sizs xs + sizs ys
    rw [sizs_app xs ys]; omega
theorem siz_pos : ∀ d : D, 1 ≤ siz d := fun d => by cases d <;> simp [siz]
theorem sizs_len : ∀ xs : List D, xs.length ≤ sizs xs
  | [] => Nat.le_refl _
  | x :: xs => by
    have h1 := siz_pos x
    have h2 := sizs_len xs
    show xs.length + 1 ≤ siz x + sizs xs
    omega
abbrev twin (x : D) : D := .tup [x, x]
theorem twins_ok : ∀ {xs : List D}, pds xs = true → dOks (xs.map twin) = true
  | [], _ => rfl
  | x :: xs, h => by
    have h' : (pd x && pds xs) = true := h
    rw [Bool.and_eq_true] at h'
    show ((dOk x && (dOk x && true)) && dOks (xs.map twin)) = true
    rw [pd_ok x h'.1, twins_ok h'.2]; rfl
theorem zipD_twin : ∀ xs : List D, zipD xs xs = xs.map twin
  | [] => rfl
  | x :: xs => by
    show D.tup [x, x] :: zipD xs xs = _
    rw [zipD_twin xs]; rfl
/-- equal things are told to be the same -/
def spSame : PV.Spec where
  run ds M Q E := ∃ d, ds = [d, d] ∧ (pd d = true ∧ siz d ≤ 1000000) ∧ Q (.bl true) M
  mono := fun ⟨a, h1, h2, h3⟩ q _ => ⟨a, h1, h2, q _ _ h3⟩
def spNo : PV.Spec where
  run ds M Q E := False
  mono := fun h _ _ => h
def ISm (M0 : Ms) (x0 x1 : Sl) (n : Nat) (r : Ro) (M : Ms) : Prop := M = M0 ∧ ∃ (xs : List D) (s3 s4 s5 s6 s7 s8 : Sl), pds xs = true ∧ sizs xs = n ∧ n ≤ 1000000 ∧ r = [x0, x1, .own (xs.map twin), s3, s4, s5, s6, s7, s8]
section
variable {m : Sm} {ds : List D} {M : Ms} {Q : D → Ms → Prop} {E : Ex}
theorem p__law_k75_off (h29 : m.fn 29 = spR2 (fun a b => a - b) fun _ _ => True) (h : spOff.run ds M Q E) : ws m S__law_k75_off E (startR N__law_k75_off ds) M { nx := fun _ M' => Q .non M', rt := Q } := by
  obtain ⟨l, mn, rfl, ⟨hl, hm, hz⟩, q⟩ := h
  simp only [S__law_k75_off, N__law_k75_off, ws, wx, wl, wi, opd, prt, tst, val, ownv, startR, w1, w2, wII, wint, wb, bt, opt, sq, sqL, sqi, tyOf, isTy, setp, sets, wsl, cturn, fl, cl, List.map_cons, List.map_nil, List.length_cons, List.length_nil, List.nil_append, List.cons_append, List.append_nil, List.replicate, List.getElem?_cons_zero, List.getElem?_cons_succ, List.getElem?_nil, List.set_cons_zero, List.set_cons_succ, List.set_nil, Nat.zero_add, Nat.reduceAdd, Nat.reduceSub, Nat.sub_self, Nat.reduceLT, Nat.lt_add_one, Nat.zero_lt_succ, true_and, and_true, if_true, if_false, Bool.true_eq, Bool.false_eq_true, reduceIte, isNon, List.all_cons, List.all_nil, List.any_cons, List.any_nil, Bool.and_true, Bool.true_and, Bool.or_false, Bool.false_or, Bool.and_false, Bool.false_and, Bool.or_true, Bool.true_or, Bool.not_true, Bool.not_false, Bool.xor_false, Bool.false_xor, Bool.true_xor, Bool.xor_true, List.isEmpty_nil, List.isEmpty_cons, clr, atI_0, atI_1, atI_2, atI_n1, asBls, asInts, dEq_int, dOk_int, dDep_int, Nat.min_self, decide_eq_true_eq, Nat.zero_le, Nat.not_lt_zero, List.cons.injEq, exists_eq_left', exists_and_left, Option.map_some, id_eq, decide_true, decide_false, Bool.not_eq_true, ne_eq, not_true_eq_false, not_false_eq_true]
  refine ⟨by rw [List.length_map]; unfold line; omega, cl_map _ (fun p => some (pD (p.1 - mn, p.2))) (fun p hp K hK => ?_) ?_⟩
  · simp only [ws, wx, wl, wi, opd, prt, tst, val, ownv, startR, w1, w2, wII, wint, wb, bt, opt, sq, sqL, sqi, tyOf, isTy, setp, sets, wsl, cturn, fl, cl, List.map_cons, List.map_nil, List.length_cons, List.length_nil, List.nil_append, List.cons_append, List.append_nil, List.replicate, List.getElem?_cons_zero, List.getElem?_cons_succ, List.getElem?_nil, List.set_cons_zero, List.set_cons_succ, List.set_nil, Nat.zero_add, Nat.reduceAdd, Nat.reduceSub, Nat.sub_self, Nat.reduceLT, Nat.lt_add_one, Nat.zero_lt_succ, true_and, and_true, if_true, if_false, Bool.true_eq, Bool.false_eq_true, reduceIte, isNon, List.all_cons, List.all_nil, List.any_cons, List.any_nil, Bool.and_true, Bool.true_and, Bool.or_false, Bool.false_or, Bool.and_false, Bool.false_and, Bool.or_true, Bool.true_or, Bool.not_true, Bool.not_false, Bool.xor_false, Bool.false_xor, Bool.true_xor, Bool.xor_true, List.isEmpty_nil, List.isEmpty_cons, clr, atI_0, atI_1, atI_2, atI_n1, asBls, asInts, dEq_int, dOk_int, dDep_int, Nat.min_self, decide_eq_true_eq, Nat.zero_le, Nat.not_lt_zero, List.cons.injEq, exists_eq_left', exists_and_left, Option.map_some, id_eq, decide_true, decide_false, Bool.not_eq_true, ne_eq, not_true_eq_false, not_false_eq_true, h29]
    exact ⟨by simp, _, _, rfl, ⟨hz p hp, hm, trivial⟩, by decide, hK⟩
  · rw [fm_some]
    have e : [] ++ l.map (fun p => pD (p.1 - mn, p.2)) = (offOf l mn).map pD := by
      unfold offOf
      rw [List.nil_append, List.map_map]; rfl
    rw [e]; exact q
theorem p__law_k75_kind (hn : m.ncl = 4) (hs : ∀ k j, m.sub k j = (decide (j = 0) || decide (k = j))) (h : spKind.run ds M Q E) : ws m S__law_k75_kind E (startR N__law_k75_kind ds) M { nx := fun _ M' => Q .non M', rt := Q } := by
  obtain ⟨k, rfl, ⟨h1, h3⟩, q⟩ := h
  have hk : k = 1 ∨ k = 2 ∨ k = 3 := by omega
  rcases hk with rfl | rfl | rfl
  all_goals
    simp [S__law_k75_kind, N__law_k75_kind, ws, wx, wl, wi, opd, val, startR, isKn, isTy, hn, hs, bt, sqi, enumD, cl, cturn, tst, clr, sets, wb, opt, line]
    exact q
theorem p__law_same (h25 : m.fn 25 = spNo) (h : spSame.run ds M Q E) : ws m S__law_same E (startR N__law_same ds) M { nx := fun _ M' => Q .non M', rt := Q } := by
  obtain ⟨d, rfl, ⟨hp, hz⟩, q⟩ := h
  simp only [S__law_same, N__law_same, ws, wx, wl, wi, opd, prt, tst, val, ownv, startR, w1, w2, wII, wint, wb, bt, opt, sq, sqL, sqi, tyOf, isTy, setp, sets, wsl, cturn, fl, cl, List.map_cons, List.map_nil, List.length_cons, List.length_nil, List.nil_append, List.cons_append, List.append_nil, List.replicate, List.getElem?_cons_zero, List.getElem?_cons_succ, List.getElem?_nil, List.set_cons_zero, List.set_cons_succ, List.set_nil, Nat.zero_add, Nat.reduceAdd, Nat.reduceSub, Nat.sub_self, Nat.reduceLT, Nat.lt_add_one, Nat.zero_lt_succ, true_and, and_true, if_true, if_false, Bool.true_eq, Bool.false_eq_true, reduceIte, isNon, List.all_cons, List.all_nil, List.any_cons, List.any_nil, Bool.and_true, Bool.true_and, Bool.or_false, Bool.false_or, Bool.and_false, Bool.false_and, Bool.or_true, Bool.true_or, Bool.not_true, Bool.not_false, Bool.xor_false, Bool.false_xor, Bool.true_xor, Bool.xor_true, List.isEmpty_nil, List.isEmpty_cons, clr, atI_0, atI_1, atI_2, atI_n1, asBls, asInts, dEq_int, dOk_int, dDep_int, Nat.min_self, decide_eq_true_eq, Nat.zero_le, Nat.not_lt_zero, List.cons.injEq, exists_eq_left', exists_and_left, Option.map_some, id_eq, decide_true, decide_false, Bool.not_eq_true, ne_eq, not_true_eq_false, not_false_eq_true]
  refine ⟨by decide, by decide, ISm M (.val d) (.val d), ⟨siz d, rfl, [d], _, _, _, _, _, _, by simp [pds, hp], by simp [sizs], hz, rfl⟩, ?_⟩
  rintro n r M' ⟨rfl, xs, s3, s4, s5, s6, s7, s8, hx, hn, hn2, rfl⟩
  simp only [ws, wx, wl, wi, opd, prt, tst, val, ownv, startR, w1, w2, wII, wint, wb, bt, opt, sq, sqL, sqi, tyOf, isTy, setp, sets, wsl, cturn, fl, cl, List.map_cons, List.map_nil, List.length_cons, List.length_nil, List.nil_append, List.cons_append, List.append_nil, List.replicate, List.getElem?_cons_zero, List.getElem?_cons_succ, List.getElem?_nil, List.set_cons_zero, List.set_cons_succ, List.set_nil, Nat.zero_add, Nat.reduceAdd, Nat.reduceSub, Nat.sub_self, Nat.reduceLT, Nat.lt_add_one, Nat.zero_lt_succ, true_and, and_true, if_true, if_false, Bool.true_eq, Bool.false_eq_true, reduceIte, isNon, List.all_cons, List.all_nil, List.any_cons, List.any_nil, Bool.and_true, Bool.true_and, Bool.or_false, Bool.false_or, Bool.and_false, Bool.false_and, Bool.or_true, Bool.true_or, Bool.not_true, Bool.not_false, Bool.xor_false, Bool.false_xor, Bool.true_xor, Bool.xor_true, List.isEmpty_nil, List.isEmpty_cons, clr, atI_0, atI_1, atI_2, atI_n1, asBls, asInts, dEq_int, dOk_int, dDep_int, Nat.min_self, decide_eq_true_eq, Nat.zero_le, Nat.not_lt_zero, List.cons.injEq, exists_eq_left', exists_and_left, Option.map_some, id_eq, decide_true, decide_false, Bool.not_eq_true, ne_eq, not_true_eq_false, not_false_eq_true]
  have o1 : dOk (.lst (xs.map twin)) = true := twins_ok hx
  refine ⟨o1, rfl, Nat.le_trans (Nat.min_le_right _ _) (by decide), ?_⟩
  rcases List.eq_nil_or_concat xs with rfl | ⟨ys, x, rfl⟩
  · have e : dEq (.lst (([] : List D).map twin)) (.lst []) = true := rfl
    rw [e]
    exact q
  · rw [List.concat_eq_append] at *
    have e : dEq (.lst ((ys ++ [x]).map twin)) (.lst []) = false := by cases ys <;> rfl
    have px : pd x = true := pds_mem hx (by simp)
    have py : pds ys = true := pds_of fun z hz => pds_mem hx (by simp [hz])
    rw [sizs_app] at hn
    change sizs ys + (siz x + 0) = n at hn
    rw [e]
    have e2 : ((ys ++ [x]).map twin)[((ys ++ [x]).map twin).length - 1]? = some (twin x) := by simp
    have e3 : ((ys ++ [x]).map twin).dropLast = ys.map twin := by simp
    have hxp : pl x = true ∨ True := .inr trivial
    have ylen := sizs_len ys
    simp only [B__law_same_1, ws, wx, wl, wi, opd, prt, tst, val, ownv, startR, w1, w2, wII, wint, wb, bt, opt, sq, sqL, sqi, tyOf, isTy, setp, sets, wsl, cturn, fl, cl, List.map_cons, List.map_nil, List.length_cons, List.length_nil, List.nil_append, List.cons_append, List.append_nil, List.replicate, List.getElem?_cons_zero, List.getElem?_cons_succ, List.getElem?_nil, List.set_cons_zero, List.set_cons_succ, List.set_nil, Nat.zero_add, Nat.reduceAdd, Nat.reduceSub, Nat.sub_self, Nat.reduceLT, Nat.lt_add_one, Nat.zero_lt_succ, true_and, and_true, if_true, if_false, Bool.true_eq, Bool.false_eq_true, reduceIte, isNon, List.all_cons, List.all_nil, List.any_cons, List.any_nil, Bool.and_true, Bool.true_and, Bool.or_false, Bool.false_or, Bool.and_false, Bool.false_and, Bool.or_true, Bool.true_or, Bool.not_true, Bool.not_false, Bool.xor_false, Bool.false_xor, Bool.true_xor, Bool.xor_true, List.isEmpty_nil, List.isEmpty_cons, clr, atI_0, atI_1, atI_2, atI_n1, asBls, asInts, dEq_int, dOk_int, dDep_int, Nat.min_self, decide_eq_true_eq, Nat.zero_le, Nat.not_lt_zero, List.cons.injEq, exists_eq_left', exists_and_left, Option.map_some, id_eq, decide_true, decide_false, Bool.not_eq_true, ne_eq, not_true_eq_false, not_false_eq_true]
    rw [e2]
    simp only [ws, wx, wl, wi, opd, prt, tst, val, ownv, startR, w1, w2, wII, wint, wb, bt, opt, sq, sqL, sqi, tyOf, isTy, setp, sets, wsl, cturn, fl, cl, List.map_cons, List.map_nil, List.length_cons, List.length_nil, List.nil_append, List.cons_append, List.append_nil, List.replicate, List.getElem?_cons_zero, List.getElem?_cons_succ, List.getElem?_nil, List.set_cons_zero, List.set_cons_succ, List.set_nil, Nat.zero_add, Nat.reduceAdd, Nat.reduceSub, Nat.sub_self, Nat.reduceLT, Nat.lt_add_one, Nat.zero_lt_succ, true_and, and_true, if_true, if_false, Bool.true_eq, Bool.false_eq_true, reduceIte, isNon, List.all_cons, List.all_nil, List.any_cons, List.any_nil, Bool.and_true, Bool.true_and, Bool.or_false, Bool.false_or, Bool.and_false, Bool.false_and, Bool.or_true, Bool.true_or, Bool.not_true, Bool.not_false, Bool.xor_false, Bool.false_xor, Bool.true_xor, Bool.xor_true, List.isEmpty_nil, List.isEmpty_cons, clr, atI_0, atI_1, atI_2, atI_n1, asBls, asInts, dEq_int, dOk_int, dDep_int, Nat.min_self, decide_eq_true_eq, Nat.zero_le, Nat.not_lt_zero, List.cons.injEq, exists_eq_left', exists_and_left, Option.map_some, id_eq, decide_true, decide_false, Bool.not_eq_true, ne_eq, not_true_eq_false, not_false_eq_true, e3]
    cases x <;> first | (cases px; done) | skip
    · rename_i i
      simp only [ws, wx, wl, wi, opd, prt, tst, val, ownv, startR, w1, w2, wII, wint, wb, bt, opt, sq, sqL, sqi, tyOf, isTy, setp, sets, wsl, cturn, fl, cl, List.map_cons, List.map_nil, List.length_cons, List.length_nil, List.nil_append, List.cons_append, List.append_nil, List.replicate, List.getElem?_cons_zero, List.getElem?_cons_succ, List.getElem?_nil, List.set_cons_zero, List.set_cons_succ, List.set_nil, Nat.zero_add, Nat.reduceAdd, Nat.reduceSub, Nat.sub_self, Nat.reduceLT, Nat.lt_add_one, Nat.zero_lt_succ, true_and, and_true, if_true, if_false, Bool.true_eq, Bool.false_eq_true, reduceIte, isNon, List.all_cons, List.all_nil, List.any_cons, List.any_nil, Bool.and_true, Bool.true_and, Bool.or_false, Bool.false_or, Bool.and_false, Bool.false_and, Bool.or_true, Bool.true_or, Bool.not_true, Bool.not_false, Bool.xor_false, Bool.false_xor, Bool.true_xor, Bool.xor_true, List.isEmpty_nil, List.isEmpty_cons, clr, atI_0, atI_1, atI_2, atI_n1, asBls, asInts, dEq_int, dOk_int, dDep_int, Nat.min_self, decide_eq_true_eq, Nat.zero_le, Nat.not_lt_zero, List.cons.injEq, exists_eq_left', exists_and_left, Option.map_some, id_eq, decide_true, decide_false, Bool.not_eq_true, ne_eq, not_true_eq_false, not_false_eq_true, isKn]
      refine ⟨by simp, rfl, rfl, by decide, ?_⟩
      refine Eq.mpr (if_neg (by decide)) (Eq.mpr (if_neg (by simp)) ?_)
      exact ⟨sizs ys, by have : siz (.int i) = 1 := rfl; omega, rfl, ys, _, _, _, _, _, _, py, rfl, by omega, rfl⟩
    · rename_i zs
      have pz : pds zs = true := px
      have hz2 : siz (.tup zs) = 1 + sizs zs := rfl
      have zlen := sizs_len zs
      simp only [ws, wx, wl, wi, opd, prt, tst, val, ownv, startR, w1, w2, wII, wint, wb, bt, opt, sq, sqL, sqi, tyOf, isTy, setp, sets, wsl, cturn, fl, cl, List.map_cons, List.map_nil, List.length_cons, List.length_nil, List.nil_append, List.cons_append, List.append_nil, List.replicate, List.getElem?_cons_zero, List.getElem?_cons_succ, List.getElem?_nil, List.set_cons_zero, List.set_cons_succ, List.set_nil, Nat.zero_add, Nat.reduceAdd, Nat.reduceSub, Nat.sub_self, Nat.reduceLT, Nat.lt_add_one, Nat.zero_lt_succ, true_and, and_true, if_true, if_false, Bool.true_eq, Bool.false_eq_true, reduceIte, isNon, List.all_cons, List.all_nil, List.any_cons, List.any_nil, Bool.and_true, Bool.true_and, Bool.or_false, Bool.false_or, Bool.and_false, Bool.false_and, Bool.or_true, Bool.true_or, Bool.not_true, Bool.not_false, Bool.xor_false, Bool.false_xor, Bool.true_xor, Bool.xor_true, List.isEmpty_nil, List.isEmpty_cons, clr, atI_0, atI_1, atI_2, atI_n1, asBls, asInts, dEq_int, dOk_int, dDep_int, Nat.min_self, decide_eq_true_eq, Nat.zero_le, Nat.not_lt_zero, List.cons.injEq, exists_eq_left', exists_and_left, Option.map_some, id_eq, decide_true, decide_false, Bool.not_eq_true, ne_eq, not_true_eq_false, not_false_eq_true, isKn]
      refine ⟨by simp, by decide, rfl, rfl, by decide, ?_⟩
      refine Eq.mpr (if_neg (by decide)) (Eq.mpr (if_neg (by simp)) ?_)
      simp only [ws, wx, wl, wi, opd, prt, tst, val, ownv, startR, w1, w2, wII, wint, wb, bt, opt, sq, sqL, sqi, tyOf, isTy, setp, sets, wsl, cturn, fl, cl, List.map_cons, List.map_nil, List.length_cons, List.length_nil, List.nil_append, List.cons_append, List.append_nil, List.replicate, List.getElem?_cons_zero, List.getElem?_cons_succ, List.getElem?_nil, List.set_cons_zero, List.set_cons_succ, List.set_nil, Nat.zero_add, Nat.reduceAdd, Nat.reduceSub, Nat.sub_self, Nat.reduceLT, Nat.lt_add_one, Nat.zero_lt_succ, true_and, and_true, if_true, if_false, Bool.true_eq, Bool.false_eq_true, reduceIte, isNon, List.all_cons, List.all_nil, List.any_cons, List.any_nil, Bool.and_true, Bool.true_and, Bool.or_false, Bool.false_or, Bool.and_false, Bool.false_and, Bool.or_true, Bool.true_or, Bool.not_true, Bool.not_false, Bool.xor_false, Bool.false_xor, Bool.true_xor, Bool.xor_true, List.isEmpty_nil, List.isEmpty_cons, clr, atI_0, atI_1, atI_2, atI_n1, asBls, asInts, dEq_int, dOk_int, dDep_int, Nat.min_self, decide_eq_true_eq, Nat.zero_le, Nat.not_lt_zero, List.cons.injEq, exists_eq_left', exists_and_left, Option.map_some, id_eq, decide_true, decide_false, Bool.not_eq_true, ne_eq, not_true_eq_false, not_false_eq_true, zipD_twin]
      refine ⟨by rw [List.length_map]; unfold line; omega, cl_map _ (fun z => some (twin z)) (fun z hzm K hK => ?_) ?_⟩
      · simp only [ws, wx, wl, wi, opd, prt, tst, val, ownv, startR, w1, w2, wII, wint, wb, bt, opt, sq, sqL, sqi, tyOf, isTy, setp, sets, wsl, cturn, fl, cl, List.map_cons, List.map_nil, List.length_cons, List.length_nil, List.nil_append, List.cons_append, List.append_nil, List.replicate, List.getElem?_cons_zero, List.getElem?_cons_succ, List.getElem?_nil, List.set_cons_zero, List.set_cons_succ, List.set_nil, Nat.zero_add, Nat.reduceAdd, Nat.reduceSub, Nat.sub_self, Nat.reduceLT, Nat.lt_add_one, Nat.zero_lt_succ, true_and, and_true, if_true, if_false, Bool.true_eq, Bool.false_eq_true, reduceIte, isNon, List.all_cons, List.all_nil, List.any_cons, List.any_nil, Bool.and_true, Bool.true_and, Bool.or_false, Bool.false_or, Bool.and_false, Bool.false_and, Bool.or_true, Bool.true_or, Bool.not_true, Bool.not_false, Bool.xor_false, Bool.false_xor, Bool.true_xor, Bool.xor_true, List.isEmpty_nil, List.isEmpty_cons, clr, atI_0, atI_1, atI_2, atI_n1, asBls, asInts, dEq_int, dOk_int, dDep_int, Nat.min_self, decide_eq_true_eq, Nat.zero_le, Nat.not_lt_zero, List.cons.injEq, exists_eq_left', exists_and_left, Option.map_some, id_eq, decide_true, decide_false, Bool.not_eq_true, ne_eq, not_true_eq_false, not_false_eq_true]
        exact ⟨by simp, by decide, hK⟩
      · rw [fm_some, List.nil_append]
        refine ⟨by rw [List.length_map, List.length_map]; unfold line; omega, sizs (ys ++ zs), by rw [sizs_app]; omega, rfl, ys ++ zs, _, _, _, _, _, _, ?_, rfl, by rw [sizs_app]; omega, by rw [List.map_append]⟩
        exact pds_of fun z hzm => by
          rcases List.mem_append.mp hzm with hzm | hzm
          · exact pds_mem py hzm
          · exact pds_mem pz hzm
    · rename_i zs
      have pz : pds zs = true := px
      have hz2 : siz (.lst zs) = 1 + sizs zs := rfl
      have zlen := sizs_len zs
      simp only [ws, wx, wl, wi, opd, prt, tst, val, ownv, startR, w1, w2, wII, wint, wb, bt, opt, sq, sqL, sqi, tyOf, isTy, setp, sets, wsl, cturn, fl, cl, List.map_cons, List.map_nil, List.length_cons, List.length_nil, List.nil_append, List.cons_append, List.append_nil, List.replicate, List.getElem?_cons_zero, List.getElem?_cons_succ, List.getElem?_nil, List.set_cons_zero, List.set_cons_succ, List.set_nil, Nat.zero_add, Nat.reduceAdd, Nat.reduceSub, Nat.sub_self, Nat.reduceLT, Nat.lt_add_one, Nat.zero_lt_succ, true_and, and_true, if_true, if_false, Bool.true_eq, Bool.false_eq_true, reduceIte, isNon, List.all_cons, List.all_nil, List.any_cons, List.any_nil, Bool.and_true, Bool.true_and, Bool.or_false, Bool.false_or, Bool.and_false, Bool.false_and, Bool.or_true, Bool.true_or, Bool.not_true, Bool.not_false, Bool.xor_false, Bool.false_xor, Bool.true_xor, Bool.xor_true, List.isEmpty_nil, List.isEmpty_cons, clr, atI_0, atI_1, atI_2, atI_n1, asBls, asInts, dEq_int, dOk_int, dDep_int, Nat.min_self, decide_eq_true_eq, Nat.zero_le, Nat.not_lt_zero, List.cons.injEq, exists_eq_left', exists_and_left, Option.map_some, id_eq, decide_true, decide_false, Bool.not_eq_true, ne_eq, not_true_eq_false, not_false_eq_true, isKn]
      refine ⟨by simp, by decide, rfl, rfl, by decide, ?_⟩
      refine Eq.mpr (if_neg (by decide)) (Eq.mpr (if_neg (by simp)) ?_)
      simp only [ws, wx, wl, wi, opd, prt, tst, val, ownv, startR, w1, w2, wII, wint, wb, bt, opt, sq, sqL, sqi, tyOf, isTy, setp, sets, wsl, cturn, fl, cl, List.map_cons, List.map_nil, List.length_cons, List.length_nil, List.nil_append, List.cons_append, List.append_nil, List.replicate, List.getElem?_cons_zero, List.getElem?_cons_succ, List.getElem?_nil, List.set_cons_zero, List.set_cons_succ, List.set_nil, Nat.zero_add, Nat.reduceAdd, Nat.reduceSub, Nat.sub_self, Nat.reduceLT, Nat.lt_add_one, Nat.zero_lt_succ, true_and, and_true, if_true, if_false, Bool.true_eq, Bool.false_eq_true, reduceIte, isNon, List.all_cons, List.all_nil, List.any_cons, List.any_nil, Bool.and_true, Bool.true_and, Bool.or_false, Bool.false_or, Bool.and_false, Bool.false_and, Bool.or_true, Bool.true_or, Bool.not_true, Bool.not_false, Bool.xor_false, Bool.false_xor, Bool.true_xor, Bool.xor_true, List.isEmpty_nil, List.isEmpty_cons, clr, atI_0, atI_1, atI_2, atI_n1, asBls, asInts, dEq_int, dOk_int, dDep_int, Nat.min_self, decide_eq_true_eq, Nat.zero_le, Nat.not_lt_zero, List.cons.injEq, exists_eq_left', exists_and_left, Option.map_some, id_eq, decide_true, decide_false, Bool.not_eq_true, ne_eq, not_true_eq_false, not_false_eq_true, zipD_twin]
      refine ⟨by rw [List.length_map]; unfold line; omega, cl_map _ (fun z => some (twin z)) (fun z hzm K hK => ?_) ?_⟩
      · simp only [ws, wx, wl, wi, opd, prt, tst, val, ownv, startR, w1, w2, wII, wint, wb, bt, opt, sq, sqL, sqi, tyOf, isTy, setp, sets, wsl, cturn, fl, cl, List.map_cons, List.map_nil, List.length_cons, List.length_nil, List.nil_append, List.cons_append, List.append_nil, List.replicate, List.getElem?_cons_zero, List.getElem?_cons_succ, List.getElem?_nil, List.set_cons_zero, List.set_cons_succ, List.set_nil, Nat.zero_add, Nat.reduceAdd, Nat.reduceSub, Nat.sub_self, Nat.reduceLT, Nat.lt_add_one, Nat.zero_lt_succ, true_and, and_true, if_true, if_false, Bool.true_eq, Bool.false_eq_true, reduceIte, isNon, List.all_cons, List.all_nil, List.any_cons, List.any_nil, Bool.and_true, Bool.true_and, Bool.or_false, Bool.false_or, Bool.and_false, Bool.false_and, Bool.or_true, Bool.true_or, Bool.not_true, Bool.not_false, Bool.xor_false, Bool.false_xor, Bool.true_xor, Bool.xor_true, List.isEmpty_nil, List.isEmpty_cons, clr, atI_0, atI_1, atI_2, atI_n1, asBls, asInts, dEq_int, dOk_int, dDep_int, Nat.min_self, decide_eq_true_eq, Nat.zero_le, Nat.not_lt_zero, List.cons.injEq, exists_eq_left', exists_and_left, Option.map_some, id_eq, decide_true, decide_false, Bool.not_eq_true, ne_eq, not_true_eq_false, not_false_eq_true]
        exact ⟨by simp, by decide, hK⟩
      · rw [fm_some, List.nil_append]
        refine ⟨by rw [List.length_map, List.length_map]; unfold line; omega, sizs (ys ++ zs), by rw [sizs_app]; omega, rfl, ys ++ zs, _, _, _, _, _, _, ?_, rfl, by rw [sizs_app]; omega, by rw [List.map_append]⟩
        exact pds_of fun z hzm => by
          rcases List.mem_append.mp hzm with hzm | hzm
          · exact pds_mem py hzm
          · exact pds_mem pz hzm
end
end K75

set_option Elab.async false
set_option linter.all false
set_option maxRecDepth 100000
set_option maxHeartbeats 4000000
/-! the law's mathematics -/
namespace K75

/-- sums over points with chances -/
def sm0 (l : List (Rat × Rat)) : Rat := (l.map fun p => p.2).sum
def sm1 (l : List (Rat × Rat)) : Rat := (l.map fun p => p.1 * p.2).sum
def sm2 (l : List (Rat × Rat)) : Rat := (l.map fun p => p.1 * p.1 * p.2).sum
def smF (c : Rat → Bool) (l : List (Rat × Rat)) : Rat := ((l.filter fun p => c p.1).map fun p => p.2).sum
theorem smF_cons {c : Rat → Bool} {p : Rat × Rat} {l : List (Rat × Rat)} : smF c (p :: l) = (if c p.1 = true then p.2 else 0) + smF c l := by
  unfold smF
  cases h : c p.1 with
  | true => rw [List.filter_cons_of_pos (p := fun p : Rat × Rat => c p.1) h, List.map_cons, List.sum_cons, if_pos rfl]
  | false => rw [List.filter_cons_of_neg (p := fun p : Rat × Rat => c p.1) (by simp [h]), if_neg (by simp), Rat.zero_add]
theorem sq_nonneg (a : Rat) : 0 ≤ a * a := by
  by_cases h : 0 ≤ a
  · exact Rat.mul_nonneg h h
  · have : 0 ≤ -a := by grind
    have := Rat.mul_nonneg this this
    grind
theorem sq_le {a b : Rat} (h : 0 ≤ a) (hb : a ≤ b) : a * a ≤ b * b := by
  have h1 := Rat.mul_le_mul_of_nonneg_left hb h
  have h2 := Rat.mul_le_mul_of_nonneg_right hb (by grind : 0 ≤ b)
  grind
theorem sm2_nonneg : ∀ {l : List (Rat × Rat)}, (∀ p ∈ l, 0 ≤ p.2) → 0 ≤ sm2 l
  | [], _ => by simp [sm2]
  | p :: l, h => by
    have h1 := Rat.mul_nonneg (sq_nonneg p.1) (h p (by simp))
    have h2 := sm2_nonneg (l := l) fun q hq => h q (by simp [hq])
    unfold sm2 at h2 ⊢
    rw [List.map_cons, List.sum_cons]
    grind
/-- Σ p (y t + V)² -/
theorem sq_sum (t V : Rat) : ∀ l : List (Rat × Rat), (l.map fun p => (p.1 * t + V) * (p.1 * t + V) * p.2).sum = t * t * sm2 l + 2 * (V * t) * sm1 l + V * V * sm0 l
  | [] => by simp [sm0, sm1, sm2]; grind
  | p :: l => by
    have := sq_sum t V l
    unfold sm0 sm1 sm2 at this ⊢
    simp only [List.map_cons, List.sum_cons, this]
    grind
theorem tail_le {t V : Rat} (ht : 0 ≤ t) (hV : 0 ≤ V) : ∀ {l : List (Rat × Rat)}, (∀ p ∈ l, 0 ≤ p.2) → smF (fun y => !decide (y < t)) l * ((t * t + V) * (t * t + V)) ≤ (l.map fun p => (p.1 * t + V) * (p.1 * t + V) * p.2).sum
  | [], _ => by simp [smF]
  | p :: l, h => by
    have ih := tail_le ht hV (l := l) fun q hq => h q (by simp [hq])
    have hp := h p (by simp)
    rw [smF_cons, List.map_cons, List.sum_cons]
    by_cases c : p.1 < t
    · have e : (!decide (p.1 < t)) = false := by simp [c]
      rw [e, if_neg (by simp), Rat.zero_add]
      have := Rat.mul_nonneg (sq_nonneg (p.1 * t + V)) hp
      grind
    · have e : (!decide (p.1 < t)) = true := by simp [c]
      rw [e, if_pos rfl]
      have h1 : t ≤ p.1 := by grind
      have h2 := Rat.mul_le_mul_of_nonneg_right h1 ht
      have h3 : 0 ≤ t * t := sq_nonneg t
      have h4 := sq_le (a := t * t + V) (b := p.1 * t + V) (by grind) (by grind)
      have h5 := Rat.mul_le_mul_of_nonneg_right h4 hp
      grind
/-- the one-sided bound -/
theorem cantelli {l : List (Rat × Rat)} {t : Rat} (hp : ∀ p ∈ l, 0 ≤ p.2) (h0 : sm0 l = 1) (h1 : sm1 l = 0) (ht : 0 < t) : smF (fun y => !decide (y < t)) l * (sm2 l + t * t) ≤ sm2 l := by
  have hV := sm2_nonneg hp
  have a := tail_le (t := t) (V := sm2 l) (by grind) hV hp
  rw [sq_sum, h0, h1] at a
  have tt : 0 < t * t := Rat.mul_pos ht ht
  have pos : 0 < t * t + sm2 l := by grind
  have b : (smF (fun y => !decide (y < t)) l * (sm2 l + t * t)) * (t * t + sm2 l) ≤ sm2 l * (t * t + sm2 l) := by grind
  exact Rat.le_of_mul_le_mul_right b pos
theorem cheb_le {t : Rat} (ht : 0 ≤ t) : ∀ {l : List (Rat × Rat)}, (∀ p ∈ l, 0 ≤ p.2) → smF (fun y => !decide ((if y < 0 then -y else y) < t)) l * (t * t) ≤ sm2 l
  | [], _ => by simp [smF, sm2]
  | p :: l, h => by
    have ih := cheb_le ht (l := l) fun q hq => h q (by simp [hq])
    have hp := h p (by simp)
    rw [smF_cons]
    have e2 : sm2 (p :: l) = p.1 * p.1 * p.2 + sm2 l := by unfold sm2; rw [List.map_cons, List.sum_cons]
    rw [e2]
    have h0 := Rat.mul_nonneg (sq_nonneg p.1) hp
    by_cases c : (if p.1 < 0 then -p.1 else p.1) < t
    · have e : (!decide ((if p.1 < 0 then -p.1 else p.1) < t)) = false := by simp [c]
      rw [e, if_neg (by simp), Rat.zero_add]
      grind
    · have e : (!decide ((if p.1 < 0 then -p.1 else p.1) < t)) = true := by simp [c]
      rw [e, if_pos rfl]
      have h4 := sq_le (a := t) (b := if p.1 < 0 then -p.1 else p.1) ht (by grind)
      have h5 := Rat.mul_le_mul_of_nonneg_right h4 hp
      have h6 : (if p.1 < 0 then -p.1 else p.1) * (if p.1 < 0 then -p.1 else p.1) = p.1 * p.1 := by split <;> grind
      rw [h6] at h5
      grind
/-- the points seen from m -/
def shift (m : Rat) (l : List (Rat × Rat)) : List (Rat × Rat) := l.map fun p => (p.1 - m, p.2)
def flip (l : List (Rat × Rat)) : List (Rat × Rat) := l.map fun p => (-p.1, p.2)
theorem sm0_shift (m : Rat) (l : List (Rat × Rat)) : sm0 (shift m l) = sm0 l := by
  unfold sm0 shift
  rw [List.map_map]; rfl
theorem sm1_shift (m : Rat) : ∀ l : List (Rat × Rat), sm1 (shift m l) = sm1 l - m * sm0 l
  | [] => by simp [sm1, sm0, shift]; grind
  | p :: l => by
    have := sm1_shift m l
    unfold sm1 sm0 shift at this ⊢
    simp only [List.map_cons, List.sum_cons, this]
    grind
theorem sm_flip (l : List (Rat × Rat)) : sm0 (flip l) = sm0 l ∧ sm1 (flip l) = - sm1 l ∧ sm2 (flip l) = sm2 l := by
  induction l with
  | nil => simp [sm0, sm1, sm2, flip]
  | cons p l ih =>
    unfold sm0 sm1 sm2 flip at ih ⊢
    simp only [List.map_cons, List.sum_cons]
    refine ⟨?_, ?_, ?_⟩ <;> grind
theorem smF_nonneg {c : Rat → Bool} : ∀ {l : List (Rat × Rat)}, (∀ p ∈ l, 0 ≤ p.2) → 0 ≤ smF c l
  | [], _ => by simp [smF]
  | p :: l, h => by
    have ih := smF_nonneg (c := c) (l := l) fun q hq => h q (by simp [hq])
    have := h p (by simp)
    rw [smF_cons]
    split <;> grind
theorem smF_app {c : Rat → Bool} : ∀ (a b : List (Rat × Rat)), smF c (a ++ b) = smF c a + smF c b
  | [], b => by simp [smF]; grind
  | p :: a, b => by
    rw [List.cons_append, smF_cons, smF_cons, smF_app a b]
    grind
theorem smF_all {c : Rat → Bool} : ∀ {l : List (Rat × Rat)}, (∀ p ∈ l, c p.1 = true) → smF c l = sm0 l
  | [], _ => rfl
  | p :: l, h => by
    rw [smF_cons, h p (by simp), if_pos rfl, smF_all fun q hq => h q (by simp [hq])]
    unfold sm0
    rw [List.map_cons, List.sum_cons]
theorem smF_none {c : Rat → Bool} : ∀ {l : List (Rat × Rat)}, (∀ p ∈ l, c p.1 = false) → smF c l = 0
  | [], _ => rfl
  | p :: l, h => by
    rw [smF_cons, h p (by simp), if_neg (by simp), smF_none fun q hq => h q (by simp [hq]), Rat.zero_add]
theorem ris_mem : ∀ {xs : List Rat} {a : Rat}, rising (a :: xs) → ∀ x ∈ xs, a < x
  | [], _, _, _, h => by simp at h
  | b :: xs, a, h, x, hx => by
    rcases List.mem_cons.mp hx with rfl | hx
    · exact h.1
    · have := ris_mem h.2 x hx
      have := h.1
      grind
theorem ris_tail : ∀ {xs : List Rat} {a : Rat}, rising (a :: xs) → rising xs
  | [], _, _ => trivial
  | _ :: _, _, h => h.2
theorem ris_app : ∀ {as bs : List Rat} {b : Rat}, rising (as ++ b :: bs) → (∀ a ∈ as, a < b) ∧ ∀ c ∈ bs, b < c
  | [], bs, b, h => ⟨fun _ h => by simp at h, ris_mem h⟩
  | a :: as, bs, b, h => by
    have h2 := ris_mem (xs := as ++ b :: bs) h
    have h3 := ris_app (as := as) (ris_tail h)
    exact ⟨fun x hx => by
      rcases List.mem_cons.mp hx with rfl | hx
      · exact h2 b (by simp)
      · exact h3.1 x hx, h3.2⟩
/-- a middle is not farther from the mean than the spread tells -/
theorem middle_near {pre post : List (Rat × Rat)} {p : Rat × Rat} (v : VN (pre ++ p :: post)) (h1 : 1 / 2 ≤ sm0 (pre ++ [p])) (h2 : 1 / 2 ≤ sm0 (p :: post)) :
    (p.1 - meanOf (pre ++ p :: post)) * (p.1 - meanOf (pre ++ p :: post)) ≤ varOf (pre ++ p :: post) := by
  generalize hl : pre ++ p :: post = l at v
  have hpos : ∀ q ∈ l, 0 ≤ q.2 := fun q hq => by have := v.pos q hq; grind
  generalize hmu : meanOf l = mu
  have e0 : sm0 l = 1 := v.one
  have e1 : sm1 l = mu := hmu
  have s0 : sm0 (shift mu l) = 1 := by rw [sm0_shift, e0]
  have s1 : sm1 (shift mu l) = 0 := by rw [sm1_shift, e0, e1]; grind
  have s2 : sm2 (shift mu l) = varOf l := by
    unfold sm2 shift varOf
    rw [List.map_map, hmu]; rfl
  have sp : ∀ q ∈ shift mu l, 0 ≤ q.2 := fun q hq => by
    obtain ⟨z, hz, rfl⟩ := List.mem_map.mp hq
    exact hpos z hz
  have ris := v.ris
  rw [← hl, List.map_append, List.map_cons] at ris
  obtain ⟨ra, rb⟩ := ris_app ris
  have V0 := sm2_nonneg sp
  rw [s2] at V0
  have half : ∀ {A V t : Rat}, 1 / 2 ≤ A → 0 ≤ V → A * (V + t * t) ≤ V → t * t ≤ V := fun {A V t} hA hV h => by
    have h3 : 0 ≤ V + t * t := by have := sq_nonneg t; grind
    have h4 := Rat.mul_le_mul_of_nonneg_right hA h3
    grind
  have split_ : shift mu l = shift mu pre ++ shift mu (p :: post) := by rw [← hl]; unfold shift; rw [List.map_append]
  have split2 : shift mu l = shift mu (pre ++ [p]) ++ shift mu post := by rw [← hl]; unfold shift; simp
  have preP : ∀ q ∈ pre, 0 ≤ q.2 := fun q hq => hpos q (by rw [← hl]; simp [hq])
  have postP : ∀ q ∈ post, 0 ≤ q.2 := fun q hq => hpos q (by rw [← hl]; simp [hq])
  have shP : ∀ {k : List (Rat × Rat)}, (∀ q ∈ k, 0 ≤ q.2) → ∀ q ∈ shift mu k, 0 ≤ q.2 := fun {k} h q hq => by
    obtain ⟨z, hz, rfl⟩ := List.mem_map.mp hq
    exact h z hz
  by_cases c0 : 0 < p.1 - mu
  · have A : 1 / 2 ≤ smF (fun y => !decide (y < p.1 - mu)) (shift mu l) := by
      rw [split_, smF_app, smF_all (l := shift mu (p :: post)) (fun q hq => ?_), sm0_shift]
      · have := smF_nonneg (c := fun y => !decide (y < p.1 - mu)) (shP preP)
        grind
      · obtain ⟨z, hz, rfl⟩ := List.mem_map.mp hq
        rcases List.mem_cons.mp hz with rfl | hz
        · simp
        · have := rb z.1 (List.mem_map_of_mem hz)
          have : ¬ (z.1 - mu < p.1 - mu) := by grind
          simp [this]
    have := cantelli sp s0 s1 c0
    rw [s2] at this
    exact half A V0 this
  · by_cases c1 : p.1 - mu = 0
    · rw [c1]; simpa using V0
    · have neg : 0 < -(p.1 - mu) := by grind
      obtain ⟨f0, f1, f2⟩ := sm_flip (shift mu l)
      have fp : ∀ q ∈ flip (shift mu l), 0 ≤ q.2 := fun q hq => by
        obtain ⟨z, hz, rfl⟩ := List.mem_map.mp hq
        exact sp z hz
      have flP : ∀ {k : List (Rat × Rat)}, (∀ q ∈ k, 0 ≤ q.2) → ∀ q ∈ flip (shift mu k), 0 ≤ q.2 := fun {k} h q hq => by
        obtain ⟨z, hz, rfl⟩ := List.mem_map.mp hq
        exact shP h z hz
      have A : 1 / 2 ≤ smF (fun y => !decide (y < -(p.1 - mu))) (flip (shift mu l)) := by
        have e : flip (shift mu l) = flip (shift mu (pre ++ [p])) ++ flip (shift mu post) := by rw [split2]; unfold flip; rw [List.map_append]
        rw [e, smF_app, smF_all (l := flip (shift mu (pre ++ [p]))) (fun q hq => ?_), (sm_flip _).1, sm0_shift]
        · have := smF_nonneg (c := fun y => !decide (y < -(p.1 - mu))) (flP postP)
          grind
        · obtain ⟨z, hz, rfl⟩ := List.mem_map.mp hq
          obtain ⟨y, hy, rfl⟩ := List.mem_map.mp hz
          rcases List.mem_append.mp hy with hy | hy
          · have := ra y.1 (List.mem_map_of_mem hy)
            have : ¬ (-(y.1 - mu) < -(p.1 - mu)) := by grind
            simp [this]
          · rw [List.mem_singleton.mp hy]
            simp
      have := cantelli fp (by rw [f0, s0]) (by rw [f1, s1]; simp) neg
      rw [f2, s2] at this
      have h := half A V0 this
      grind
end K75

set_option Elab.async false
set_option linter.all false
set_option maxRecDepth 100000
set_option maxHeartbeats 4000000
set_option exponentiation.threshold 100000
/-! facts of a turn -/
namespace K75
open PySem PySem.Spec PyProof.Rows L2 PV

/-- what stands behind the names -/
structure MF (m : Sm) : Prop where
  f13 : m.fn 13 = spMean
  f14 : m.fn 14 = spMid
  f17 : m.fn 17 = spOn fun v g => rD (one1 v g)
  f18 : m.fn 18 = spOn fun v g => rD (both1 v g)
  f19 : m.fn 19 = spOn fun v g => numD (toldOf v g)
  f20 : m.fn 20 = spBegun
  f22 : m.fn 22 = spDraw
  f23 : m.fn 23 = spPick
  f26 : m.fn 26 = spSame
  f27 : m.fn 27 = spLow
  f28 : m.fn 28 = spR2 (fun a b => a + b) fun _ _ => True
  f29 : m.fn 29 = spR2 (fun a b => a - b) fun _ _ => True
  f30 : m.fn 30 = spR2 (fun a b => a * b) fun _ _ => True
  f31 : m.fn 31 = spR2 (fun a b => a / b) fun _ b => b.num ≠ 0
  f32 : m.fn 32 = spLess
  f33 : m.fn 33 = spSum
  f37 : m.fn 37 = spNums
  f38 : m.fn 38 = spOff
  f39 : m.fn 39 = spKind
  held : m.held 13 = some 1 ∧ m.held 14 = some 1 ∧ m.held 17 = some 2 ∧ m.held 18 = some 2 ∧ m.held 19 = some 2
  sub : ∀ k j, m.sub k j = (decide (j = 0) || decide (k = j))
/-- sizes of a turn's numbers -/
structure TF (l : List (Rat × Rat)) (N S : Nat) : Prop where
  vn : VN l
  N1 : 1 ≤ N
  N2 : N ≤ 54
  S1 : 1 ≤ S
  S2 : S ≤ 240
  fr : ∀ p ∈ l, Fr N 10000 p.1 ∧ Fr S S p.2
theorem Gen.tf {l : List (Rat × Rat)} (g : Gen l) : ∃ N S, TF l N S := by
  obtain ⟨N, S, h1, h2, h3, h4, h5⟩ := g.sz
  exact ⟨N, S, g.vn, h1, h2, h3, h4, h5⟩
section
variable {l : List (Rat × Rat)} {N S : Nat}
theorem TF.nz (t : TF l N S) : Nz l := ⟨N, 10000, S, t.N1, t.S1, lt_pow (show N < 2 ^ 6 by have := t.N2; omega) (by decide), by decide +kernel, lt_pow (show S < 2 ^ 8 by have := t.S2; omega) (by decide), t.fr⟩
theorem TF.ns (t : TF l N S) : 0 < N * S ∧ N * S ≤ 12960 := ⟨Nat.mul_pos t.N1 t.S1, Nat.le_trans (Nat.mul_le_mul t.N2 t.S2) (by decide)⟩
theorem TF.frm (t : TF l N S) : Fr (N * S) (8 * (10000 * S)) (meanOf l) := by
  have := fr_sum (qs := l.map fun p => p.1 * p.2) (N := N * S) (Z := 10000 * S) fun q hq => by
    obtain ⟨p, hp, rfl⟩ := List.mem_map.mp hq
    exact (t.fr p hp).1.mul (t.fr p hp).2
  rw [List.length_map] at this
  exact this.mono (Nat.mul_le_mul_right _ t.vn.len8)
theorem TF.fro (t : TF l N S) : ∀ p ∈ l, Fr (N * S) (9 * (10000 * S)) (p.1 - meanOf l) := fun p hp => ((t.fr p hp).1.scale.sub t.frm).mono (by omega)
theorem TF.frq (t : TF l N S) : ∀ p ∈ l, Fr ((N * S) * (N * S) * S) ((9 * (10000 * S)) * (9 * (10000 * S)) * S) ((p.1 - meanOf l) * (p.1 - meanOf l) * p.2) := fun p hp => ((t.fro p hp).mul (t.fro p hp)).mul (t.fr p hp).2
theorem small {n k : Nat} (h : n ≤ k) (hk : k < 2 ^ 80) : n < 2 ^ 80 := Nat.lt_of_le_of_lt h hk
theorem TF.szp (t : TF l N S) : ∀ p ∈ l, Sz 20 p.1 := fun p hp => (t.fr p hp).1.sz t.N1 (by have := t.N2; omega) (by decide)
theorem TF.szc (t : TF l N S) : ∀ p ∈ l, Sz 20 p.2 := fun p hp => (t.fr p hp).2.sz t.S1 (by have := t.S2; omega) (by have := t.S2; omega)
theorem TF.szm (t : TF l N S) : Sz 30 (meanOf l) := t.frm.sz t.ns.1 (by have := t.ns.2; omega) (by have := t.S2; omega)
theorem TF.szo (t : TF l N S) : ∀ p ∈ l, Sz 30 (p.1 - meanOf l) := fun p hp => (t.fro p hp).sz t.ns.1 (by have := t.ns.2; omega) (by have := t.S2; omega)
theorem TF.q1 (t : TF l N S) : 0 < (N * S) * (N * S) * S ∧ (N * S) * (N * S) * S < 2 ^ 40 := by
  have h := t.ns
  refine ⟨Nat.mul_pos (Nat.mul_pos h.1 h.1) t.S1, ?_⟩
  have h1 : (N * S) * (N * S) * S ≤ 12960 * 12960 * 240 := Nat.mul_le_mul (Nat.mul_le_mul h.2 h.2) t.S2
  exact Nat.lt_of_le_of_lt h1 (by decide)
theorem TF.q2 (t : TF l N S) : (9 * (10000 * S)) * (9 * (10000 * S)) * S ≤ 2 ^ 60 := by
  have h0 : 9 * (10000 * S) ≤ 21600000 := by have := t.S2; omega
  have h1 : (9 * (10000 * S)) * (9 * (10000 * S)) * S ≤ 21600000 * 21600000 * 240 := Nat.mul_le_mul (Nat.mul_le_mul h0 h0) t.S2
  exact Nat.le_trans h1 (by decide)
theorem TF.szV (t : TF l N S) : Sz 64 (varOf l) := by
  have := fr_sum (qs := l.map fun p => (p.1 - meanOf l) * (p.1 - meanOf l) * p.2) fun q hq => by
    obtain ⟨p, hp, rfl⟩ := List.mem_map.mp hq
    exact t.frq p hp
  rw [List.length_map] at this
  have q2 := t.q2
  have h8 := t.vn.len8
  refine (this.mono (Nat.mul_le_mul_right _ h8)).sz t.q1.1 (Nat.lt_trans t.q1.2 (by decide)) ?_
  omega
theorem big4 {n Z : Nat} (h1 : n ≤ 8) (h2 : Z ≤ 2 ^ 3000) : (n + 1) * (Z + 1) < 2 ^ 4000 := by
  have h5 : (n + 1) * (Z + 1) ≤ 9 * (2 ^ 3000 + 1) := Nat.mul_le_mul (by omega) (by omega)
  exact Nat.lt_of_le_of_lt h5 (by decide +kernel)
theorem le3000 {a k : Nat} (h : a ≤ 2 ^ k) (hk : k ≤ 3000) : a ≤ 2 ^ 3000 := Nat.le_trans h (Nat.pow_le_pow_right (by decide) hk)
/-- sums of some of the chances -/
theorem TF.sumc (t : TF l N S) {qs : List Rat} (hl : qs.length ≤ 8) (h : ∀ q ∈ qs, ∃ p ∈ l, q = p.2) {Q : D → PV.Ms → Prop} {M : PV.Ms} {E : Ex} (hq : Q (rD qs.sum) M) : spSum.run [.lst (qs.map rD)] M Q E :=
  ⟨qs, S, S, rfl, ⟨t.S1, lt_pow (show S < 2 ^ 8 by have := t.S2; omega) (by decide), big4 hl (le3000 (k := 8) (by have := t.S2; omega) (by decide)), fun q hqm => by
    obtain ⟨p, hp, rfl⟩ := h q hqm
    exact (t.fr p hp).2⟩, hq⟩
theorem TF.szsum (t : TF l N S) {qs : List Rat} (hl : qs.length ≤ 8) (h : ∀ q ∈ qs, ∃ p ∈ l, q = p.2) : Sz 20 qs.sum := by
  have := fr_sum (qs := qs) (N := S) (Z := S) fun q hqm => by
    obtain ⟨p, hp, rfl⟩ := h q hqm
    exact (t.fr p hp).2
  refine (this.mono (Nat.mul_le_mul_right _ hl)).sz t.S1 (by have := t.S2; omega) (by have := t.S2; omega)
theorem pl_rD (q : Rat) : pl (rD q) = true := rfl
theorem sm_of {q : Rat} {k : Nat} (h : Sz k q) (hk : k ≤ 400) : sm (rD q) = true := by
  have h := h.mono hk
  show (decide (q.num.natAbs < 2 ^ 400) && (decide ((q.den : Int).natAbs < 2 ^ 400) && true)) = true
  rw [decide_eq_true h.1, decide_eq_true (by simpa using h.2)]; rfl
theorem pl_pD (p : Rat × Rat) : pl (pD p) = true := rfl
theorem pls_pD : ∀ l : List (Rat × Rat), pls (l.map pD) = true
  | [] => rfl
  | p :: l => by
    show (pl (pD p) && pls (l.map pD)) = true
    rw [pl_pD, pls_pD l]; rfl
theorem pl_num {l : List (Rat × Rat)} (h : l.length ≤ 1000) : pl (numD l) = true := pl_tup.mpr ⟨by rw [List.length_map]; exact h, pls_pD l⟩
theorem sms_pD {k : Nat} (hk : k ≤ 400) : ∀ {l : List (Rat × Rat)}, (∀ p ∈ l, Sz k p.1 ∧ Sz k p.2) → sms (l.map pD) = true
  | [], _ => rfl
  | p :: l, h => by
    obtain ⟨h1, h2⟩ := h p (by simp)
    show ((sm (rD p.1) && (sm (rD p.2) && true)) && sms (l.map pD)) = true
    rw [sm_of h1 hk, sm_of h2 hk, sms_pD hk fun q hq => h q (by simp [hq])]; rfl
theorem sm_num {k : Nat} {l : List (Rat × Rat)} (hk : k ≤ 400) (h : ∀ p ∈ l, Sz k p.1 ∧ Sz k p.2) : sm (numD l) = true := sms_pD hk h
theorem pd_rD (q : Rat) : pd (rD q) = true := rfl
theorem siz_rD (q : Rat) : siz (rD q) = 3 := rfl
end
/-! ### the two points -/
theorem one_bounds {v g : Rat} (hv : 0 < v) (hg : 0 < g) : 0 < one1 v g ∧ one1 v g < 1 := by
  have p0 := g2_pos (v := v) (by grind) hg
  have gg := Rat.mul_pos hg hg
  unfold one1
  refine ⟨?_, ?_⟩
  · rw [Rat.lt_div_iff p0, Rat.zero_mul]; exact hv
  · rw [Rat.div_lt_iff p0]; grind
theorem told_vn {v g : Rat} (hv : 0 ≤ v) (hg : 0 < g) : VN (toldOf v g) := by
  unfold toldOf
  by_cases h : v = 0
  · rw [if_pos h]
    exact ⟨by simp, by simp, fun p hp => by rw [List.mem_singleton.mp hp]; exact ⟨by decide +kernel, by decide +kernel⟩, trivial, by simp; grind⟩
  · rw [if_neg h]
    have hv' : 0 < v := by grind
    obtain ⟨c1, c2⟩ := one_bounds hv' hg
    have hd : 0 < v / g := by rw [Rat.lt_div_iff hg, Rat.zero_mul]; exact hv'
    refine ⟨by simp, by simp, fun p hp => ?_, ⟨by grind, trivial⟩, ?_⟩
    · simp only [List.mem_cons, List.not_mem_nil, or_false] at hp
      rcases hp with rfl | rfl
      · exact ⟨by grind, by grind⟩
      · exact ⟨c1, by grind⟩
    · simp only [List.map_cons, List.map_nil, List.sum_cons, List.sum_nil]
      grind
theorem told_mean {v g : Rat} (hv : 0 ≤ v) (hg : 0 < g) : meanOf (toldOf v g) = 0 := by
  unfold toldOf meanOf
  by_cases h : v = 0
  · rw [if_pos h]; simp; grind
  · rw [if_neg h]
    have p0 := g2_pos hv hg
    have e1 : v / g * g = v := Rat.div_mul_cancel (by grind)
    have e2 : one1 v g * (v + g * g) = v := Rat.div_mul_cancel (by grind)
    simp only [List.map_cons, List.map_nil, List.sum_cons, List.sum_nil]
    have key : ((0 - v / g) * (1 - one1 v g) + (g * one1 v g + 0)) * g = 0 * g := by grind
    have h1 := congrArg (· / g) key
    rw [Rat.mul_div_cancel (by grind), Rat.mul_div_cancel (by grind)] at h1
    exact h1
theorem told_var {v g : Rat} (hv : 0 ≤ v) (hg : 0 < g) : varOf (toldOf v g) = v := by
  have hm := told_mean hv hg
  unfold varOf
  rw [hm]
  unfold toldOf
  by_cases h : v = 0
  · rw [if_pos h, h]; simp; grind
  · rw [if_neg h]
    have p0 := g2_pos hv hg
    have e1 : v / g * g = v := Rat.div_mul_cancel (by grind)
    have e2 : one1 v g * (v + g * g) = v := Rat.div_mul_cancel (by grind)
    simp only [List.map_cons, List.map_nil, List.sum_cons, List.sum_nil]
    have gg := Rat.mul_pos hg hg
    have key : ((0 - v / g - 0) * (0 - v / g - 0) * (1 - one1 v g) + ((g - 0) * (g - 0) * one1 v g + 0)) * (g * g) = v * (g * g) := by
      have e3 : (v / g) * (v / g) * (g * g) = v * v := by grind
      grind
    have h1 := congrArg (· / (g * g)) key
    rw [Rat.mul_div_cancel (by grind), Rat.mul_div_cancel (by grind)] at h1
    exact h1
end K75

set_option Elab.async false
set_option linter.all false
set_option maxRecDepth 100000
set_option maxHeartbeats 4000000
set_option exponentiation.threshold 100000
/-! middles in the law's words; what are no numbers -/
namespace K75
open PySem PySem.Spec PyProof.Rows L2 PV

theorem fr_self {q : Rat} (h0 : 0 ≤ q) (h1 : q ≤ 1) : Fr q.den q.den q := by
  have hn : q.num ≤ q.den := by
    have := (Rat.le_iff q 1).mp h1
    simpa using this
  have hn0 := num_nonneg.mpr h0
  refine ⟨q.num, by omega, ?_⟩
  have e1 : (q.num : Rat) / (q.den : Rat) = q := by
    have h := Rat.num_divInt_den q
    rw [Rat.divInt_eq_div] at h
    exact h
  have e2 : (q.den : Rat) ≠ 0 := by
    intro e
    have : q.den = 0 := by exact_mod_cast e
    have := q.den_nz
    omega
  have : (q.num : Rat) / (q.den : Rat) * (q.den : Rat) = q.num := Rat.div_mul_cancel e2
  rw [e1] at this
  exact this
theorem fr_den (q : Rat) : Fr q.den q.num.natAbs q := by
  refine ⟨q.num, Nat.le_refl _, ?_⟩
  have e1 : (q.num : Rat) / (q.den : Rat) = q := by
    have h := Rat.num_divInt_den q
    rw [Rat.divInt_eq_div] at h
    exact h
  have e2 : (q.den : Rat) ≠ 0 := by
    intro e
    have : q.den = 0 := by exact_mod_cast e
    have := q.den_nz
    omega
  have : (q.num : Rat) / (q.den : Rat) * (q.den : Rat) = q.num := Rat.div_mul_cancel e2
  rw [e1] at this
  exact this
theorem told_nz {v g : Rat} (sv : Sz 64 v) (sg : Sz 30 g) (hv : 0 ≤ v) (hg : 0 < g) : Nz (toldOf v g) := by
  unfold toldOf
  by_cases h : v = 0
  · rw [if_pos h]
    refine ⟨1, 1, 1, by decide, by decide, by decide, by decide, by decide, fun p hp => ?_⟩
    rw [List.mem_singleton.mp hp]
    exact ⟨Fr.zero, fr_one⟩
  · rw [if_neg h]
    have hv' : 0 < v := by grind
    obtain ⟨c1, c2⟩ := one_bounds hv' hg
    have p0 := g2_pos hv hg
    have so : Sz 190 (one1 v g) := (sv.div (sv.add (sg.mul sg)) (by grind)).mono (by decide)
    have sd : Sz 100 (0 - v / g) := (sz0.sub (sv.div sg (by grind))).mono (by decide)
    have fc := fr_self (q := one1 v g) (by grind) (by grind)
    have fc' : Fr (one1 v g).den (one1 v g).den (1 - one1 v g) := by
      obtain ⟨z, z1, z2⟩ := fc
      refine ⟨((one1 v g).den : Int) - z, ?_, ?_⟩
      · have : 0 ≤ z := by
          have h3 : (0 : Rat) ≤ (z : Rat) := by
            rw [← z2]
            exact Rat.mul_nonneg (by grind) Rat.natCast_nonneg
          exact_mod_cast h3
        omega
      · rw [Rat.intCast_sub, ← z2]
        have : (((one1 v g).den : Int) : Rat) = ((one1 v g).den : Rat) := rfl
        rw [this]
        grind
    have f1 := (fr_den (0 - v / g)).scale (k := g.den)
    have f2 := (fr_den g).scaleN (N' := (0 - v / g).den * g.den) (k := (0 - v / g).den) (Nat.mul_comm _ _)
    have dg : 0 < g.den := Nat.pos_of_ne_zero g.den_nz
    have dd : 0 < (0 - v / g).den := Nat.pos_of_ne_zero (0 - v / g).den_nz
    have b1 : (0 - v / g).den * g.den < 2 ^ 200 := lt_pow (pow2 sd.2 sg.2) (by decide)
    have b2 : (0 - v / g).num.natAbs * g.den < 2 ^ 190 := lt_pow (pow2 sd.1 sg.2) (by decide)
    have b3 : g.num.natAbs * (0 - v / g).den < 2 ^ 190 := lt_pow (pow2 sg.1 sd.2) (by decide)
    refine ⟨(0 - v / g).den * g.den, (0 - v / g).num.natAbs * g.den + g.num.natAbs * (0 - v / g).den, (one1 v g).den, Nat.mul_pos dd dg, Nat.pos_of_ne_zero (one1 v g).den_nz, b1, by omega, lt_pow so.2 (by decide), fun p hp => ?_⟩
    simp only [List.mem_cons, List.not_mem_nil, or_false] at hp
    rcases hp with rfl | rfl
    · exact ⟨f1.mono (by omega), fc'⟩
    · exact ⟨f2.mono (by omega), fc⟩
theorem sm0_app (a b : List (Rat × Rat)) : sm0 (a ++ b) = sm0 a + sm0 b := by
  unfold sm0
  rw [List.map_append, List.sum_append]
theorem sm0_cons (p : Rat × Rat) (b : List (Rat × Rat)) : sm0 (p :: b) = p.2 + sm0 b := rfl
theorem mids_mem {l : List (Rat × Rat)} (h1 : sm0 l = 1) : ∀ {rest pre : List (Rat × Rat)} {x : Rat}, pre ++ rest = l → x ∈ midsFrom (sm0 pre) rest → ∃ pre' p post, l = pre' ++ p :: post ∧ x = p.1 ∧ 1 / 2 ≤ sm0 (pre' ++ [p]) ∧ 1 / 2 ≤ sm0 (p :: post)
  | [], pre, x, _, hx => by simp [midsFrom] at hx
  | p :: post, pre, x, hl, hx => by
    have e : sm0 (pre ++ [p]) = sm0 pre + p.2 := by
      rw [sm0_app, sm0_cons]
      simp [sm0]
      grind
    have e2 : sm0 pre + sm0 (p :: post) = 1 := by rw [← sm0_app, hl, h1]
    have next : x ∈ midsFrom (sm0 (pre ++ [p])) post → ∃ pre' p post, l = pre' ++ p :: post ∧ x = p.1 ∧ 1 / 2 ≤ sm0 (pre' ++ [p]) ∧ 1 / 2 ≤ sm0 (p :: post) := fun h => mids_mem h1 (by rw [← hl]; simp) h
    unfold midsFrom at hx
    rw [← e] at hx
    split at hx
    · rename_i c
      rcases List.mem_cons.mp hx with rfl | hx
      · exact ⟨pre, p, post, hl.symm, rfl, by grind, by grind⟩
      · exact next hx
    · exact next hx
theorem mids_near {l : List (Rat × Rat)} (v : VN l) {x : Rat} (hx : x ∈ mids l) : (x - meanOf l) * (x - meanOf l) ≤ varOf l := by
  obtain ⟨pre, p, post, rfl, rfl, h1, h2⟩ := mids_mem (l := l) v.one (pre := []) (rest := l) rfl hx
  exact middle_near v h1 h2
/-! ### no numbers -/
theorem no_non : ¬ isNum .non := by rintro ⟨l, e, _⟩; cases e
theorem no_lst {xs : List D} : ¬ isNum (.lst xs) := by rintro ⟨l, e, _⟩; cases e
theorem no_nil : ¬ isNum (.tup []) := by
  rintro ⟨l, e, v⟩
  injection e with e
  have : l = [] := by
    cases l with
    | nil => rfl
    | cons _ _ => simp at e
  subst this
  have := v.len1
  simp at this
theorem no_long {xs : List D} (h : 8 < xs.length) : ¬ isNum (.tup xs) := by
  rintro ⟨l, e, v⟩
  injection e with e
  subst e
  have := v.len8
  simp at h
  omega
theorem no_of {l : List (Rat × Rat)} (h : ¬ VN l) : ¬ isNum (numD l) := by
  rintro ⟨l', e, v⟩
  rw [numD_inj e] at h
  exact h v
theorem no_twice {l : List (Rat × Rat)} {p : Rat × Rat} (hp : l.getLast? = some p) : ¬ VN (l ++ [p]) := fun v => by
  obtain ⟨k, rfl⟩ := List.getLast?_eq_some_iff.mp hp
  have r := v.ris
  have e : ((k ++ [p]) ++ [p]).map (·.1) = k.map (·.1) ++ p.1 :: [p.1] := by simp
  rw [e] at r
  have := (ris_app r).2 p.1 (by simp)
  grind
theorem no_back {l : List (Rat × Rat)} (v : VN l) (h : 1 < l.length) : ¬ VN l.reverse := fun w => by
  match l, h with
  | a :: b :: k, _ =>
    have r := w.ris
    have r2 := v.ris
    have e : ((a :: b :: k).reverse).map (·.1) = k.reverse.map (·.1) ++ b.1 :: [a.1] := by simp
    rw [e] at r
    have h1 := (ris_app r).2 a.1 (by simp)
    have h2 : a.1 < b.1 := r2.1
    grind
theorem no_zero {l : List (Rat × Rat)} {x : Rat} : ¬ VN ((x, 0) :: l) := fun v => by
  have := (v.pos (x, 0) (by simp)).1
  grind
theorem no_two {l : List (Rat × Rat)} {x : Rat} : ¬ VN ((x, 2) :: l) := fun v => by
  have := (v.pos (x, 2) (by simp)).2
  have h : ¬ ((2 : Rat) ≤ 1) := by decide +kernel
  exact h this
end K75

set_option Elab.async false
set_option linter.all false
set_option maxRecDepth 100000
set_option maxHeartbeats 4000000
set_option exponentiation.threshold 100000
/-! the turn's tail: wrong spreads, wrong gaps -/
namespace K75
open PySem PySem.Spec PyProof.Rows L2 PV

theorem dr_tab {n : Nat} {M : Ms} (h : Dr n M) : hasTab M 0 := by
  obtain ⟨q, gs, cs, r, t, rfl, _⟩ := h
  exact trivial
theorem rD_parts {n d : Int} {v : Rat} (h : D.tup [.int n, .int d] = rD v) : v.num = n ∧ (v.den : Int) = d := by
  injection h with h
  injection h with h1 h2
  injection h2 with h2 _
  injection h1 with h1
  injection h2 with h2
  exact ⟨h1.symm, h2.symm⟩
theorem bad_24 {v : Rat} : D.tup [.int 2, .int 4] ≠ rD v := fun h => by
  obtain ⟨h1, h2⟩ := rD_parts h
  have := v.reduced
  have h3 : v.den = 4 := by omega
  rw [h1, h3] at this
  exact absurd this (by decide)
theorem bad_int {i : Int} {v : Rat} : D.int i ≠ rD v := fun h => by cases h
theorem bad_non {v : Rat} : D.non ≠ rD v := fun h => by cases h
structure BadS (x : D) : Prop where
  p : pl x = true
  z : ∀ v, x = rD v → Sz 600 v
theorem wrong_ok {x : D} (h : x ∈ [D.non, .tup [.int (-1), .int 2], .int 1, .tup [.int 2, .int 4]]) : BadS x ∧ ¬ okS x := by
  simp only [List.mem_cons, List.not_mem_nil, or_false] at h
  rcases h with rfl | rfl | rfl | rfl
  · exact ⟨⟨rfl, fun v e => absurd e bad_non⟩, fun ⟨v, e, _⟩ => bad_non e⟩
  · refine ⟨⟨rfl, fun v e => ?_⟩, fun ⟨v, e, h0⟩ => ?_⟩
    · obtain ⟨h1, h2⟩ := rD_parts e
      exact (show Sz 2 v from ⟨by rw [h1]; decide, by omega⟩).mono (by decide)
    · obtain ⟨h1, h2⟩ := rD_parts e
      have := num_nonneg.mpr h0
      omega
  · exact ⟨⟨rfl, fun v e => absurd e bad_int⟩, fun ⟨v, e, _⟩ => bad_int e⟩
  · exact ⟨⟨rfl, fun v e => absurd e bad_24⟩, fun ⟨v, e, _⟩ => bad_24 e⟩
theorem low_ok {x : D} (h : x ∈ [D.non, .tup [.int 0, .int 1], .tup [.int (-1), .int 2], .int 1, .tup [.int 2, .int 4]]) : BadS x ∧ ¬ okG x := by
  simp only [List.mem_cons, List.not_mem_nil, or_false] at h
  rcases h with rfl | rfl | rfl | rfl | rfl
  · exact ⟨⟨rfl, fun v e => absurd e bad_non⟩, fun ⟨v, e, _⟩ => bad_non e⟩
  · refine ⟨⟨rfl, fun v e => ?_⟩, fun ⟨v, e, h0⟩ => ?_⟩
    · obtain ⟨h1, h2⟩ := rD_parts e
      exact (show Sz 2 v from ⟨by rw [h1]; decide, by omega⟩).mono (by decide)
    · obtain ⟨h1, h2⟩ := rD_parts e
      have := num_pos.mpr h0
      omega
  · refine ⟨⟨rfl, fun v e => ?_⟩, fun ⟨v, e, h0⟩ => ?_⟩
    · obtain ⟨h1, h2⟩ := rD_parts e
      exact (show Sz 2 v from ⟨by rw [h1]; decide, by omega⟩).mono (by decide)
    · obtain ⟨h1, h2⟩ := rD_parts e
      have := num_pos.mpr h0
      omega
  · exact ⟨⟨rfl, fun v e => absurd e bad_int⟩, fun ⟨v, e, _⟩ => bad_int e⟩
  · exact ⟨⟨rfl, fun v e => absurd e bad_24⟩, fun ⟨v, e, _⟩ => bad_24 e⟩
section
variable {m : Sm} {M : Ms} {E : Ex} {K : Kn} {a0 a1 a2 a3 a4 a5 a6 a7 a8 a9 a10 a11 a12 a13 a14 a15 a16 a17 a18 a19 a20 a21 a22 a23 a24 a25 a26 a27 : Sl}
theorem b9 (F : MF m) {n : Nat} {V : Rat} {wr lo : D} {f : Nat} {g : Rat → Rat → D} (hf : m.fn f = spOn g) (hh : m.held f = some 2) (hd : Dr n M) (sV : Sz 64 V) (V0 : 0 ≤ V) (hw : BadS wr ∧ ¬ okS wr) (hl : BadS lo ∧ ¬ okG lo)
    (hk : K.nx [a0, .val (.tok 2), a2, a3, a4, a5, .val (rD V), a7, a8, a9, a10, a11, a12, a13, a14, a15, a16, a17, a18, .val (.fn f), .val wr, .val lo, a22, a23, a24, a25, a26, a27] M) : ws m B_law_9 E [a0, .val (.tok 2), a2, a3, a4, a5, .val (rD V), a7, a8, a9, a10, a11, a12, a13, a14, a15, a16, a17, a18, .val (.fn f), .val wr, .val lo, a22, a23, a24, a25, a26, a27] M K := by
  simp only [B_law_9, ws, wx, wl, wi, opd, prt, tst, val, ownv, startR, w1, w2, wII, wint, wb, bt, opt, sq, sqL, sqi, tyOf, isTy, setp, sets, wsl, cturn, fl, cl, List.map_cons, List.map_nil, List.length_cons, List.length_nil, List.nil_append, List.cons_append, List.append_nil, List.replicate, List.getElem?_cons_zero, List.getElem?_cons_succ, List.getElem?_nil, List.set_cons_zero, List.set_cons_succ, List.set_nil, Nat.zero_add, Nat.reduceAdd, Nat.reduceSub, Nat.sub_self, Nat.reduceLT, Nat.lt_add_one, Nat.zero_lt_succ, true_and, and_true, if_true, if_false, Bool.true_eq, Bool.false_eq_true, reduceIte, isNon, List.all_cons, List.all_nil, List.any_cons, List.any_nil, Bool.and_true, Bool.true_and, Bool.or_false, Bool.false_or, Bool.and_false, Bool.false_and, Bool.or_true, Bool.true_or, Bool.not_true, Bool.not_false, Bool.xor_false, Bool.false_xor, Bool.true_xor, Bool.xor_true, List.isEmpty_nil, List.isEmpty_cons, clr, atI_0, atI_1, atI_2, atI_n1, asBls, asInts, dEq_int, dOk_int, dDep_int, Nat.min_self, decide_eq_true_eq, Nat.zero_le, Nat.not_lt_zero, List.cons.injEq, exists_eq_left', exists_and_left, Option.map_some, id_eq, decide_true, decide_false, Bool.not_eq_true, ne_eq, not_true_eq_false, not_false_eq_true, noOwn, hh, hf, F.f39]
  refine ⟨dr_tab hd, rfl, wr, lo, rfl, ⟨hw.1.p, hl.1.p, fun v h => h.elim (hw.1.z v) (hl.1.z v)⟩, fun v x e _ h0 _ => absurd ⟨v, e, h0⟩ hw.2, fun _ => ⟨by rw [F.sub]; rfl, 2, rfl, ⟨by decide, by decide⟩, by decide, by decide, by decide, by decide, Eq.mpr (if_neg (by decide)) ?_⟩, fun os _ => absurd os hw.2⟩
  simp only [T_law_8, ws, wx, wl, wi, opd, prt, tst, val, ownv, startR, w1, w2, wII, wint, wb, bt, opt, sq, sqL, sqi, tyOf, isTy, setp, sets, wsl, cturn, fl, cl, List.map_cons, List.map_nil, List.length_cons, List.length_nil, List.nil_append, List.cons_append, List.append_nil, List.replicate, List.getElem?_cons_zero, List.getElem?_cons_succ, List.getElem?_nil, List.set_cons_zero, List.set_cons_succ, List.set_nil, Nat.zero_add, Nat.reduceAdd, Nat.reduceSub, Nat.sub_self, Nat.reduceLT, Nat.lt_add_one, Nat.zero_lt_succ, true_and, and_true, if_true, if_false, Bool.true_eq, Bool.false_eq_true, reduceIte, isNon, List.all_cons, List.all_nil, List.any_cons, List.any_nil, Bool.and_true, Bool.true_and, Bool.or_false, Bool.false_or, Bool.and_false, Bool.false_and, Bool.or_true, Bool.true_or, Bool.not_true, Bool.not_false, Bool.xor_false, Bool.false_xor, Bool.true_xor, Bool.xor_true, List.isEmpty_nil, List.isEmpty_cons, clr, atI_0, atI_1, atI_2, atI_n1, asBls, asInts, dEq_int, dOk_int, dDep_int, Nat.min_self, decide_eq_true_eq, Nat.zero_le, Nat.not_lt_zero, List.cons.injEq, exists_eq_left', exists_and_left, Option.map_some, id_eq, decide_true, decide_false, Bool.not_eq_true, ne_eq, not_true_eq_false, not_false_eq_true, noOwn, hh, hf, F.f39]
  have oV : okS (rD V) := ⟨V, rfl, V0⟩
  refine ⟨dr_tab hd, rfl, rD V, lo, rfl, ⟨rfl, hl.1.p, fun v h => h.elim (fun e => by rw [← rD_inj.mp e]; exact sV.mono (by decide)) (hl.1.z v)⟩, fun v x _ e _ h0 => absurd ⟨x, e, h0⟩ hl.2, fun h => absurd oV h, fun _ _ => ⟨by rw [F.sub]; rfl, 3, rfl, ⟨by decide, by decide⟩, by decide, by decide, by decide, by decide, Eq.mpr (if_neg (by decide)) hk⟩⟩
/-- the turn's end -/
theorem t11 (F : MF m) {n : Nat} {V : Rat} (hn : n < 2 ^ 30) (hd : Dr n M) (sV : Sz 64 V) (V0 : 0 ≤ V)
    (hk : ∀ (s : List Sl) M', s.length = 26 → Dr (n + 2) M' → K.nx (a0 :: .val (.tok 2) :: s) M') : ws m T_law_11 E [a0, .val (.tok 2), a2, a3, a4, a5, .val (rD V), a7, a8, a9, a10, a11, a12, a13, a14, a15, a16, a17, a18, a19, a20, a21, a22, a23, a24, a25, a26, a27] M K := by
  simp only [T_law_11, ws, wx, wl, wi, opd, prt, tst, val, ownv, startR, w1, w2, wII, wint, wb, bt, opt, sq, sqL, sqi, tyOf, isTy, setp, sets, wsl, cturn, fl, cl, List.map_cons, List.map_nil, List.length_cons, List.length_nil, List.nil_append, List.cons_append, List.append_nil, List.replicate, List.getElem?_cons_zero, List.getElem?_cons_succ, List.getElem?_nil, List.set_cons_zero, List.set_cons_succ, List.set_nil, Nat.zero_add, Nat.reduceAdd, Nat.reduceSub, Nat.sub_self, Nat.reduceLT, Nat.lt_add_one, Nat.zero_lt_succ, true_and, and_true, if_true, if_false, Bool.true_eq, Bool.false_eq_true, reduceIte, isNon, List.all_cons, List.all_nil, List.any_cons, List.any_nil, Bool.and_true, Bool.true_and, Bool.or_false, Bool.false_or, Bool.and_false, Bool.false_and, Bool.or_true, Bool.true_or, Bool.not_true, Bool.not_false, Bool.xor_false, Bool.false_xor, Bool.true_xor, Bool.xor_true, List.isEmpty_nil, List.isEmpty_cons, clr, atI_0, atI_1, atI_2, atI_n1, asBls, asInts, dEq_int, dOk_int, dDep_int, Nat.min_self, decide_eq_true_eq, Nat.zero_le, Nat.not_lt_zero, List.cons.injEq, exists_eq_left', exists_and_left, Option.map_some, id_eq, decide_true, decide_false, Bool.not_eq_true, ne_eq, not_true_eq_false, not_false_eq_true, F.f23]
  refine ⟨by decide, by decide, by decide, _, _, rfl, ⟨by simp, by simp, by omega, hd⟩, fun wr M1 hwr hd1 => ?_⟩
  refine ⟨by decide, by decide, by decide, by decide, _, _, rfl, ⟨by simp, by simp, by omega, hd1⟩, fun lo M2 hlo hd2 => ?_⟩
  simp only [T_law_10, ws, wx, wl, wi, opd, prt, tst, val, ownv, startR, w1, w2, wII, wint, wb, bt, opt, sq, sqL, sqi, tyOf, isTy, setp, sets, wsl, cturn, fl, cl, List.map_cons, List.map_nil, List.length_cons, List.length_nil, List.nil_append, List.cons_append, List.append_nil, List.replicate, List.getElem?_cons_zero, List.getElem?_cons_succ, List.getElem?_nil, List.set_cons_zero, List.set_cons_succ, List.set_nil, Nat.zero_add, Nat.reduceAdd, Nat.reduceSub, Nat.sub_self, Nat.reduceLT, Nat.lt_add_one, Nat.zero_lt_succ, true_and, and_true, if_true, if_false, Bool.true_eq, Bool.false_eq_true, reduceIte, isNon, List.all_cons, List.all_nil, List.any_cons, List.any_nil, Bool.and_true, Bool.true_and, Bool.or_false, Bool.false_or, Bool.and_false, Bool.false_and, Bool.or_true, Bool.true_or, Bool.not_true, Bool.not_false, Bool.xor_false, Bool.false_xor, Bool.true_xor, Bool.xor_true, List.isEmpty_nil, List.isEmpty_cons, clr, atI_0, atI_1, atI_2, atI_n1, asBls, asInts, dEq_int, dOk_int, dDep_int, Nat.min_self, decide_eq_true_eq, Nat.zero_le, Nat.not_lt_zero, List.cons.injEq, exists_eq_left', exists_and_left, Option.map_some, id_eq, decide_true, decide_false, Bool.not_eq_true, ne_eq, not_true_eq_false, not_false_eq_true]
  obtain ⟨_, _, h17, h18, h19⟩ := F.held
  have hw := wrong_ok hwr
  have hl := low_ok hlo
  refine ⟨by decide, b9 F F.f17 h17 hd2 sV V0 hw hl ?_⟩
  simp only [ws, wx, wl, wi, opd, prt, tst, val, ownv, startR, w1, w2, wII, wint, wb, bt, opt, sq, sqL, sqi, tyOf, isTy, setp, sets, wsl, cturn, fl, cl, List.map_cons, List.map_nil, List.length_cons, List.length_nil, List.nil_append, List.cons_append, List.append_nil, List.replicate, List.getElem?_cons_zero, List.getElem?_cons_succ, List.getElem?_nil, List.set_cons_zero, List.set_cons_succ, List.set_nil, Nat.zero_add, Nat.reduceAdd, Nat.reduceSub, Nat.sub_self, Nat.reduceLT, Nat.lt_add_one, Nat.zero_lt_succ, true_and, and_true, if_true, if_false, Bool.true_eq, Bool.false_eq_true, reduceIte, isNon, List.all_cons, List.all_nil, List.any_cons, List.any_nil, Bool.and_true, Bool.true_and, Bool.or_false, Bool.false_or, Bool.and_false, Bool.false_and, Bool.or_true, Bool.true_or, Bool.not_true, Bool.not_false, Bool.xor_false, Bool.false_xor, Bool.true_xor, Bool.xor_true, List.isEmpty_nil, List.isEmpty_cons, clr, atI_0, atI_1, atI_2, atI_n1, asBls, asInts, dEq_int, dOk_int, dDep_int, Nat.min_self, decide_eq_true_eq, Nat.zero_le, Nat.not_lt_zero, List.cons.injEq, exists_eq_left', exists_and_left, Option.map_some, id_eq, decide_true, decide_false, Bool.not_eq_true, ne_eq, not_true_eq_false, not_false_eq_true]
  refine b9 F F.f18 h18 hd2 sV V0 hw hl ?_
  simp only [ws, wx, wl, wi, opd, prt, tst, val, ownv, startR, w1, w2, wII, wint, wb, bt, opt, sq, sqL, sqi, tyOf, isTy, setp, sets, wsl, cturn, fl, cl, List.map_cons, List.map_nil, List.length_cons, List.length_nil, List.nil_append, List.cons_append, List.append_nil, List.replicate, List.getElem?_cons_zero, List.getElem?_cons_succ, List.getElem?_nil, List.set_cons_zero, List.set_cons_succ, List.set_nil, Nat.zero_add, Nat.reduceAdd, Nat.reduceSub, Nat.sub_self, Nat.reduceLT, Nat.lt_add_one, Nat.zero_lt_succ, true_and, and_true, if_true, if_false, Bool.true_eq, Bool.false_eq_true, reduceIte, isNon, List.all_cons, List.all_nil, List.any_cons, List.any_nil, Bool.and_true, Bool.true_and, Bool.or_false, Bool.false_or, Bool.and_false, Bool.false_and, Bool.or_true, Bool.true_or, Bool.not_true, Bool.not_false, Bool.xor_false, Bool.false_xor, Bool.true_xor, Bool.xor_true, List.isEmpty_nil, List.isEmpty_cons, clr, atI_0, atI_1, atI_2, atI_n1, asBls, asInts, dEq_int, dOk_int, dDep_int, Nat.min_self, decide_eq_true_eq, Nat.zero_le, Nat.not_lt_zero, List.cons.injEq, exists_eq_left', exists_and_left, Option.map_some, id_eq, decide_true, decide_false, Bool.not_eq_true, ne_eq, not_true_eq_false, not_false_eq_true]
  refine b9 F F.f19 h19 hd2 sV V0 hw hl ?_
  exact hk _ M2 rfl hd2
structure BadN (x : D) : Prop where
  p : pl x = true
  s : sm x = true
  n : ¬ isNum x
theorem b7 (F : MF m) {n : Nat} {bad : D} {f : Nat} (hf : f = 13 ∨ f = 14) (hd : Dr n M) (hb : BadN bad) (hk : K.nx [a0, .val (.tok 2), a2, a3, a4, a5, a6, a7, a8, a9, a10, a11, a12, a13, a14, a15, a16, a17, .val bad, .val (.fn f), a20, a21, a22, a23, a24, a25, a26, a27] M) : ws m B_law_7 E [a0, .val (.tok 2), a2, a3, a4, a5, a6, a7, a8, a9, a10, a11, a12, a13, a14, a15, a16, a17, .val bad, .val (.fn f), a20, a21, a22, a23, a24, a25, a26, a27] M K := by
  have hh : m.held f = some 1 := by rcases hf with rfl | rfl; exact F.held.1; exact F.held.2.1
  have go : ∀ (Q : D → Ms → Prop) (E' : Ex), E' ⟨1, []⟩ M → (m.fn f).run [bad] M Q E' := fun Q E' h => by
    rcases hf with rfl | rfl
    · rw [F.f13]
      exact ⟨bad, rfl, ⟨hb.p, hb.s, fun l e v => absurd ⟨l, e, v⟩ hb.n⟩, fun l e v => absurd ⟨l, e, v⟩ hb.n, fun _ => h⟩
    · rw [F.f14]
      exact ⟨bad, rfl, ⟨hb.p, hb.s, fun l e v => absurd ⟨l, e, v⟩ hb.n⟩, fun l _ _ e v => absurd ⟨l, e, v⟩ hb.n, fun _ => h⟩
  simp only [B_law_7, ws, wx, wl, wi, opd, prt, tst, val, ownv, startR, w1, w2, wII, wint, wb, bt, opt, sq, sqL, sqi, tyOf, isTy, setp, sets, wsl, cturn, fl, cl, List.map_cons, List.map_nil, List.length_cons, List.length_nil, List.nil_append, List.cons_append, List.append_nil, List.replicate, List.getElem?_cons_zero, List.getElem?_cons_succ, List.getElem?_nil, List.set_cons_zero, List.set_cons_succ, List.set_nil, Nat.zero_add, Nat.reduceAdd, Nat.reduceSub, Nat.sub_self, Nat.reduceLT, Nat.lt_add_one, Nat.zero_lt_succ, true_and, and_true, if_true, if_false, Bool.true_eq, Bool.false_eq_true, reduceIte, isNon, List.all_cons, List.all_nil, List.any_cons, List.any_nil, Bool.and_true, Bool.true_and, Bool.or_false, Bool.false_or, Bool.and_false, Bool.false_and, Bool.or_true, Bool.true_or, Bool.not_true, Bool.not_false, Bool.xor_false, Bool.false_xor, Bool.true_xor, Bool.xor_true, List.isEmpty_nil, List.isEmpty_cons, clr, atI_0, atI_1, atI_2, atI_n1, asBls, asInts, dEq_int, dOk_int, dDep_int, Nat.min_self, decide_eq_true_eq, Nat.zero_le, Nat.not_lt_zero, List.cons.injEq, exists_eq_left', exists_and_left, Option.map_some, id_eq, decide_true, decide_false, Bool.not_eq_true, ne_eq, not_true_eq_false, not_false_eq_true, noOwn, hh, F.f39]
  exact ⟨dr_tab hd, rfl, go _ _ ⟨by rw [F.sub]; rfl, 1, rfl, ⟨by decide, by decide⟩, by decide, by decide, by decide, by decide, Eq.mpr (if_neg (by decide)) hk⟩⟩
theorem t12 (F : MF m) {n : Nat} {V : Rat} {bad : D} (hn : n < 2 ^ 30) (hd : Dr n M) (sV : Sz 64 V) (V0 : 0 ≤ V) (hb : BadN bad)
    (hk : ∀ (s : List Sl) M', s.length = 26 → Dr (n + 2) M' → K.nx (a0 :: .val (.tok 2) :: s) M') : ws m T_law_12 E [a0, .val (.tok 2), a2, a3, a4, a5, .val (rD V), a7, a8, a9, a10, a11, a12, a13, a14, a15, a16, a17, .val bad, a19, a20, a21, a22, a23, a24, a25, a26, a27] M K := by
  simp only [T_law_12, ws, wx, wl, wi, opd, prt, tst, val, ownv, startR, w1, w2, wII, wint, wb, bt, opt, sq, sqL, sqi, tyOf, isTy, setp, sets, wsl, cturn, fl, cl, List.map_cons, List.map_nil, List.length_cons, List.length_nil, List.nil_append, List.cons_append, List.append_nil, List.replicate, List.getElem?_cons_zero, List.getElem?_cons_succ, List.getElem?_nil, List.set_cons_zero, List.set_cons_succ, List.set_nil, Nat.zero_add, Nat.reduceAdd, Nat.reduceSub, Nat.sub_self, Nat.reduceLT, Nat.lt_add_one, Nat.zero_lt_succ, true_and, and_true, if_true, if_false, Bool.true_eq, Bool.false_eq_true, reduceIte, isNon, List.all_cons, List.all_nil, List.any_cons, List.any_nil, Bool.and_true, Bool.true_and, Bool.or_false, Bool.false_or, Bool.and_false, Bool.false_and, Bool.or_true, Bool.true_or, Bool.not_true, Bool.not_false, Bool.xor_false, Bool.false_xor, Bool.true_xor, Bool.xor_true, List.isEmpty_nil, List.isEmpty_cons, clr, atI_0, atI_1, atI_2, atI_n1, asBls, asInts, dEq_int, dOk_int, dDep_int, Nat.min_self, decide_eq_true_eq, Nat.zero_le, Nat.not_lt_zero, List.cons.injEq, exists_eq_left', exists_and_left, Option.map_some, id_eq, decide_true, decide_false, Bool.not_eq_true, ne_eq, not_true_eq_false, not_false_eq_true]
  refine ⟨by decide, b7 F (.inl rfl) hd hb ?_⟩
  simp only [ws, wx, wl, wi, opd, prt, tst, val, ownv, startR, w1, w2, wII, wint, wb, bt, opt, sq, sqL, sqi, tyOf, isTy, setp, sets, wsl, cturn, fl, cl, List.map_cons, List.map_nil, List.length_cons, List.length_nil, List.nil_append, List.cons_append, List.append_nil, List.replicate, List.getElem?_cons_zero, List.getElem?_cons_succ, List.getElem?_nil, List.set_cons_zero, List.set_cons_succ, List.set_nil, Nat.zero_add, Nat.reduceAdd, Nat.reduceSub, Nat.sub_self, Nat.reduceLT, Nat.lt_add_one, Nat.zero_lt_succ, true_and, and_true, if_true, if_false, Bool.true_eq, Bool.false_eq_true, reduceIte, isNon, List.all_cons, List.all_nil, List.any_cons, List.any_nil, Bool.and_true, Bool.true_and, Bool.or_false, Bool.false_or, Bool.and_false, Bool.false_and, Bool.or_true, Bool.true_or, Bool.not_true, Bool.not_false, Bool.xor_false, Bool.false_xor, Bool.true_xor, Bool.xor_true, List.isEmpty_nil, List.isEmpty_cons, clr, atI_0, atI_1, atI_2, atI_n1, asBls, asInts, dEq_int, dOk_int, dDep_int, Nat.min_self, decide_eq_true_eq, Nat.zero_le, Nat.not_lt_zero, List.cons.injEq, exists_eq_left', exists_and_left, Option.map_some, id_eq, decide_true, decide_false, Bool.not_eq_true, ne_eq, not_true_eq_false, not_false_eq_true]
  refine b7 F (.inr rfl) hd hb ?_
  exact t11 F hn hd sV V0 hk
/-- the bad numbers -/
theorem bads_ok {l : List (Rat × Rat)} (v : VN l) (sz : ∀ p ∈ l, Sz 100 p.1 ∧ Sz 100 p.2) {x : Rat} {q : Rat × Rat} (hx : Sz 100 x) (hq : l.getLast? = some q) {wide : D} (hw : BadN wide) {b : D}
    (h : b ∈ [D.non, .tup [], .lst (l.map pD), .tup (l.map pD ++ [pD q]), wide, .tup (.tup [rD x, .tup [.int 0, .int 1]] :: l.map pD), .tup [.tup [rD x, .tup [.int 2, .int 1]]]]) : BadN b := by
  have l8 := v.len8
  have hql : q ∈ l := List.mem_of_getLast? hq
  simp only [List.mem_cons, List.not_mem_nil, or_false] at h
  rcases h with rfl | rfl | rfl | rfl | rfl | rfl | rfl
  · exact ⟨rfl, rfl, no_non⟩
  · exact ⟨rfl, rfl, no_nil⟩
  · exact ⟨pl_lst.mpr ⟨by rw [List.length_map]; omega, pls_pD l⟩, sms_pD (k := 100) (by decide) sz, no_lst⟩
  · have e : l.map pD ++ [pD q] = (l ++ [q]).map pD := by rw [List.map_append]; rfl
    rw [e]
    exact ⟨pl_num (by rw [List.length_append, List.length_singleton]; omega), sm_num (k := 100) (by decide) fun p hp => by
      rcases List.mem_append.mp hp with hp | hp
      · exact sz p hp
      · rw [List.mem_singleton.mp hp]; exact sz q hql, no_of (no_twice hq)⟩
  · exact hw
  · have e : D.tup [rD x, .tup [.int 0, .int 1]] :: l.map pD = ((x, 0) :: l).map pD := rfl
    rw [e]
    exact ⟨pl_num (by rw [List.length_cons]; omega), sm_num (k := 100) (by decide) fun p hp => by
      rcases List.mem_cons.mp hp with rfl | hp
      · exact ⟨hx, sz0.mono (by decide)⟩
      · exact sz p hp, no_of no_zero⟩
  · have e : [D.tup [rD x, .tup [.int 2, .int 1]]] = [((x, 2) : Rat × Rat)].map pD := rfl
    rw [e]
    exact ⟨pl_num (by simp), sm_num (k := 100) (by decide) fun p hp => by
      rw [List.mem_singleton.mp hp]
      exact ⟨hx, (show Sz 2 2 from ⟨by decide, by decide⟩).mono (by decide)⟩, no_of no_two⟩
theorem back_ok {l : List (Rat × Rat)} (v : VN l) (sz : ∀ p ∈ l, Sz 100 p.1 ∧ Sz 100 p.2) (h : 1 < l.length) : BadN (.tup (l.map pD).reverse) := by
  have l8 := v.len8
  rw [← List.map_reverse]
  exact ⟨pl_num (by rw [List.length_reverse]; omega), sm_num (k := 100) (by decide) fun p hp => sz p (List.mem_reverse.mp hp), no_of (no_back v h)⟩
end
end K75

set_option Elab.async false
set_option linter.all false
set_option maxRecDepth 100000
set_option maxHeartbeats 4000000
set_option exponentiation.threshold 100000
/-! the turn: bad numbers -/
namespace K75
open PySem PySem.Spec PyProof.Rows L2 PV

theorem rng9 : rngD 0 (Int.toNat 9) = [.int 0, .int 1, .int 2, .int 3, .int 4, .int 5, .int 6, .int 7, .int 8] := rfl
abbrev wideD : D := .tup [.tup [.tup [.int 0, .int 1], .tup [.int 1, .int 9]], .tup [.tup [.int 1, .int 1], .tup [.int 1, .int 9]], .tup [.tup [.int 2, .int 1], .tup [.int 1, .int 9]], .tup [.tup [.int 3, .int 1], .tup [.int 1, .int 9]], .tup [.tup [.int 4, .int 1], .tup [.int 1, .int 9]], .tup [.tup [.int 5, .int 1], .tup [.int 1, .int 9]], .tup [.tup [.int 6, .int 1], .tup [.int 1, .int 9]], .tup [.tup [.int 7, .int 1], .tup [.int 1, .int 9]], .tup [.tup [.int 8, .int 1], .tup [.int 1, .int 9]]]
theorem wide_bad : BadN wideD := ⟨by decide +kernel, by decide +kernel, no_long (by decide)⟩
theorem cut_last {α : Type} {l : List α} {f : α → D} {q : α} (h : l.getLast? = some q) : cut (l.map f) (some (-1)) none = [f q] := by
  obtain ⟨k, rfl⟩ := List.getLast?_eq_some_iff.mp h
  unfold cut HT.sIx
  have hn : ((-1 : Int) < 0) := by decide
  simp only [if_pos hn, List.length_map, List.length_append, List.length_singleton]
  have e : ((-1 : Int) + ((k.length + 1 : Nat) : Int)).toNat = k.length := by omega
  rw [e, List.map_append, List.map_cons, List.map_nil]
  rw [show k.length = (k.map f).length by rw [List.length_map], List.drop_left]
  simp
section
variable {m : Sm} {M : Ms} {E : Ex} {K : Kn} {a0 a1 a2 a3 a4 a5 a6 a7 a8 a9 a10 a11 a12 a13 a14 a15 a16 a17 a18 a19 a20 a21 a22 a23 a24 a25 a26 a27 : Sl}
theorem t13 (F : MF m) {n : Nat} {V : Rat} {l : List (Rat × Rat)} {bs : List D} (hn : n < 2 ^ 29) (hd : Dr n M) (sV : Sz 64 V) (V0 : 0 ≤ V) (v : VN l) (sz : ∀ p ∈ l, Sz 100 p.1 ∧ Sz 100 p.2) (hb : ∀ b ∈ bs, BadN b) (hbn : bs ≠ []) (hbl : bs.length ≤ 100)
    (hk : ∀ (s : List Sl) M', s.length = 26 → Dr (n + 3) M' → K.nx (a0 :: .val (.tok 2) :: s) M') : ws m T_law_13 E [a0, .val (.tok 2), a2, .val (numD l), a4, a5, .val (rD V), .own bs, a8, a9, a10, a11, a12, a13, a14, a15, a16, a17, a18, a19, a20, a21, a22, a23, a24, a25, a26, a27] M K := by
  have fin : ∀ xs : List D, (∀ b ∈ xs, BadN b) → spPick.run [.tok 2, .lst (bs ++ xs)] M (fun d M' => ws m T_law_12 E [a0, .val (.tok 2), a2, .val (numD l), a4, a5, .val (rD V), .own bs, a8, a9, a10, a11, a12, a13, a14, a15, a16, a17, .val d, a19, a20, a21, a22, a23, a24, a25, a26, a27] M' K) E ∨ xs.length > 100 := fun xs hx => by
    by_cases hxl : xs.length > 100
    · exact .inr hxl
    · refine .inl ⟨_, n, rfl, ⟨by simp [hbn], by rw [List.length_append]; omega, by omega, hd⟩, fun b M1 hbm hd1 => ?_⟩
      have bb : BadN b := by
        rcases List.mem_append.mp hbm with h | h
        · exact hb b h
        · exact hx b h
      exact t12 F (by omega) hd1 sV V0 bb fun s M' hs hd' => hk s M' hs (hd'.mono (by omega))
  simp only [T_law_13, ws, wx, wl, wi, opd, prt, tst, val, ownv, startR, w1, w2, wII, wint, wb, bt, opt, sq, sqL, sqi, tyOf, isTy, setp, sets, wsl, cturn, fl, cl, List.map_cons, List.map_nil, List.length_cons, List.length_nil, List.nil_append, List.cons_append, List.append_nil, List.replicate, List.getElem?_cons_zero, List.getElem?_cons_succ, List.getElem?_nil, List.set_cons_zero, List.set_cons_succ, List.set_nil, Nat.zero_add, Nat.reduceAdd, Nat.reduceSub, Nat.sub_self, Nat.reduceLT, Nat.lt_add_one, Nat.zero_lt_succ, true_and, and_true, if_true, if_false, Bool.true_eq, Bool.false_eq_true, reduceIte, isNon, List.all_cons, List.all_nil, List.any_cons, List.any_nil, Bool.and_true, Bool.true_and, Bool.or_false, Bool.false_or, Bool.and_false, Bool.false_and, Bool.or_true, Bool.true_or, Bool.not_true, Bool.not_false, Bool.xor_false, Bool.false_xor, Bool.true_xor, Bool.xor_true, List.isEmpty_nil, List.isEmpty_cons, clr, atI_0, atI_1, atI_2, atI_n1, asBls, asInts, dEq_int, dOk_int, dDep_int, Nat.min_self, decide_eq_true_eq, Nat.zero_le, Nat.not_lt_zero, List.cons.injEq, exists_eq_left', exists_and_left, Option.map_some, id_eq, decide_true, decide_false, Bool.not_eq_true, ne_eq, not_true_eq_false, not_false_eq_true, F.f23, List.length_map]
  by_cases c : (1 : Int) < (l.length : Int)
  · simp only [if_pos c, ws, wx, wl, wi, opd, prt, tst, val, ownv, startR, w1, w2, wII, wint, wb, bt, opt, sq, sqL, sqi, tyOf, isTy, setp, sets, wsl, cturn, fl, cl, List.map_cons, List.map_nil, List.length_cons, List.length_nil, List.nil_append, List.cons_append, List.append_nil, List.replicate, List.getElem?_cons_zero, List.getElem?_cons_succ, List.getElem?_nil, List.set_cons_zero, List.set_cons_succ, List.set_nil, Nat.zero_add, Nat.reduceAdd, Nat.reduceSub, Nat.sub_self, Nat.reduceLT, Nat.lt_add_one, Nat.zero_lt_succ, true_and, and_true, if_true, if_false, Bool.true_eq, Bool.false_eq_true, reduceIte, isNon, List.all_cons, List.all_nil, List.any_cons, List.any_nil, Bool.and_true, Bool.true_and, Bool.or_false, Bool.false_or, Bool.and_false, Bool.false_and, Bool.or_true, Bool.true_or, Bool.not_true, Bool.not_false, Bool.xor_false, Bool.false_xor, Bool.true_xor, Bool.xor_true, List.isEmpty_nil, List.isEmpty_cons, clr, atI_0, atI_1, atI_2, atI_n1, asBls, asInts, dEq_int, dOk_int, dDep_int, Nat.min_self, decide_eq_true_eq, Nat.zero_le, Nat.not_lt_zero, List.cons.injEq, exists_eq_left', exists_and_left, Option.map_some, id_eq, decide_true, decide_false, Bool.not_eq_true, ne_eq, not_true_eq_false, not_false_eq_true]
    refine ⟨by decide, by unfold line; omega, ?_⟩
    rcases fin [.tup (l.map pD).reverse] (fun b hb => by rw [List.mem_singleton.mp hb]; exact back_ok v sz (by omega)) with h | h
    · exact h
    · simp at h
  · simp only [if_neg c, ws, wx, wl, wi, opd, prt, tst, val, ownv, startR, w1, w2, wII, wint, wb, bt, opt, sq, sqL, sqi, tyOf, isTy, setp, sets, wsl, cturn, fl, cl, List.map_cons, List.map_nil, List.length_cons, List.length_nil, List.nil_append, List.cons_append, List.append_nil, List.replicate, List.getElem?_cons_zero, List.getElem?_cons_succ, List.getElem?_nil, List.set_cons_zero, List.set_cons_succ, List.set_nil, Nat.zero_add, Nat.reduceAdd, Nat.reduceSub, Nat.sub_self, Nat.reduceLT, Nat.lt_add_one, Nat.zero_lt_succ, true_and, and_true, if_true, if_false, Bool.true_eq, Bool.false_eq_true, reduceIte, isNon, List.all_cons, List.all_nil, List.any_cons, List.any_nil, Bool.and_true, Bool.true_and, Bool.or_false, Bool.false_or, Bool.and_false, Bool.false_and, Bool.or_true, Bool.true_or, Bool.not_true, Bool.not_false, Bool.xor_false, Bool.false_xor, Bool.true_xor, Bool.xor_true, List.isEmpty_nil, List.isEmpty_cons, clr, atI_0, atI_1, atI_2, atI_n1, asBls, asInts, dEq_int, dOk_int, dDep_int, Nat.min_self, decide_eq_true_eq, Nat.zero_le, Nat.not_lt_zero, List.cons.injEq, exists_eq_left', exists_and_left, Option.map_some, id_eq, decide_true, decide_false, Bool.not_eq_true, ne_eq, not_true_eq_false, not_false_eq_true]
    refine ⟨by show bs.length + 0 ≤ line; unfold line; omega, ?_⟩
    rcases fin [] (fun b hb => by simp at hb) with h | h
    · rw [List.append_nil] at h; exact h
    · simp at h
theorem t14 (F : MF m) {n : Nat} {V : Rat} {l : List (Rat × Rat)} (hn : n < 2 ^ 29) (hd : Dr n M) (sV : Sz 64 V) (V0 : 0 ≤ V) (v : VN l) (sz : ∀ p ∈ l, Sz 100 p.1 ∧ Sz 100 p.2)
    (hk : ∀ (s : List Sl) M', s.length = 26 → Dr (n + 3) M' → K.nx (a0 :: .val (.tok 2) :: s) M') : ws m T_law_14 E [a0, .val (.tok 2), a2, .val (numD l), a4, a5, .val (rD V), a7, a8, a9, a10, a11, a12, a13, a14, a15, a16, .val wideD, a18, a19, a20, a21, a22, a23, a24, a25, a26, a27] M K := by
  have l8 := v.len8
  have l1 := v.len1
  obtain ⟨q, hq⟩ : ∃ q, l.getLast? = some q := by
    cases e : l.getLast? with
    | none => rw [List.getLast?_eq_none_iff] at e; rw [e] at l1; simp at l1
    | some q => exact ⟨q, rfl⟩
  obtain ⟨p, k, hp⟩ : ∃ p k, l = p :: k := by
    cases l with
    | nil => simp at l1
    | cons p k => exact ⟨p, k, rfl⟩
  have hp0 : l[0]? = some p := by rw [hp]; rfl
  have e0 : atI (l.map pD) 0 = some (pD p) := by
    have := PV.atI_nat (xs := l.map pD) (n := 0)
    rw [List.getElem?_map, hp0] at this
    exact this
  have all := fun b (hb : b ∈ _) => bads_ok v sz (x := p.1) (sz p (by rw [hp]; simp)).1 hq wide_bad hb
  simp only [T_law_14, ws, wx, wl, wi, opd, prt, tst, val, ownv, startR, w1, w2, wII, wint, wb, bt, opt, sq, sqL, sqi, tyOf, isTy, setp, sets, wsl, cturn, fl, cl, List.map_cons, List.map_nil, List.length_cons, List.length_nil, List.nil_append, List.cons_append, List.append_nil, List.replicate, List.getElem?_cons_zero, List.getElem?_cons_succ, List.getElem?_nil, List.set_cons_zero, List.set_cons_succ, List.set_nil, Nat.zero_add, Nat.reduceAdd, Nat.reduceSub, Nat.sub_self, Nat.reduceLT, Nat.lt_add_one, Nat.zero_lt_succ, true_and, and_true, if_true, if_false, Bool.true_eq, Bool.false_eq_true, reduceIte, isNon, List.all_cons, List.all_nil, List.any_cons, List.any_nil, Bool.and_true, Bool.true_and, Bool.or_false, Bool.false_or, Bool.and_false, Bool.false_and, Bool.or_true, Bool.true_or, Bool.not_true, Bool.not_false, Bool.xor_false, Bool.false_xor, Bool.true_xor, Bool.xor_true, List.isEmpty_nil, List.isEmpty_cons, clr, atI_0, atI_1, atI_2, atI_n1, asBls, asInts, dEq_int, dOk_int, dDep_int, Nat.min_self, decide_eq_true_eq, Nat.zero_le, Nat.not_lt_zero, List.cons.injEq, exists_eq_left', exists_and_left, Option.map_some, id_eq, decide_true, decide_false, Bool.not_eq_true, ne_eq, not_true_eq_false, not_false_eq_true, cut_last hq, e0, List.length_map]
  refine ⟨by unfold line; omega, by decide, by decide, by decide, by unfold line; omega, by decide, by decide, by decide, by decide, ?_⟩
  exact t13 F hn hd sV V0 v sz all (by simp) (by simp) hk
theorem t15 (F : MF m) {n : Nat} {V : Rat} {l : List (Rat × Rat)} (hn : n < 2 ^ 29) (hd : Dr n M) (sV : Sz 64 V) (V0 : 0 ≤ V) (v : VN l) (sz : ∀ p ∈ l, Sz 100 p.1 ∧ Sz 100 p.2)
    (hk : ∀ (s : List Sl) M', s.length = 26 → Dr (n + 3) M' → K.nx (a0 :: .val (.tok 2) :: s) M') : ws m T_law_15 E [a0, .val (.tok 2), a2, .val (numD l), a4, a5, .val (rD V), a7, a8, a9, a10, a11, a12, a13, a14, a15, a16, a17, a18, a19, a20, a21, a22, a23, a24, a25, a26, a27] M K := by
  simp only [T_law_15, ws, wx, wl, wi, opd, prt, tst, val, ownv, startR, w1, w2, wII, wint, wb, bt, opt, sq, sqL, sqi, tyOf, isTy, setp, sets, wsl, cturn, fl, cl, List.map_cons, List.map_nil, List.length_cons, List.length_nil, List.nil_append, List.cons_append, List.append_nil, List.replicate, List.getElem?_cons_zero, List.getElem?_cons_succ, List.getElem?_nil, List.set_cons_zero, List.set_cons_succ, List.set_nil, Nat.zero_add, Nat.reduceAdd, Nat.reduceSub, Nat.sub_self, Nat.reduceLT, Nat.lt_add_one, Nat.zero_lt_succ, true_and, and_true, if_true, if_false, Bool.true_eq, Bool.false_eq_true, reduceIte, isNon, List.all_cons, List.all_nil, List.any_cons, List.any_nil, Bool.and_true, Bool.true_and, Bool.or_false, Bool.false_or, Bool.and_false, Bool.false_and, Bool.or_true, Bool.true_or, Bool.not_true, Bool.not_false, Bool.xor_false, Bool.false_xor, Bool.true_xor, Bool.xor_true, List.isEmpty_nil, List.isEmpty_cons, clr, atI_0, atI_1, atI_2, atI_n1, asBls, asInts, dEq_int, dOk_int, dDep_int, Nat.min_self, decide_eq_true_eq, Nat.zero_le, Nat.not_lt_zero, List.cons.injEq, exists_eq_left', exists_and_left, Option.map_some, id_eq, decide_true, decide_false, Bool.not_eq_true, ne_eq, not_true_eq_false, not_false_eq_true, rng9]
  refine ⟨by decide, by decide, ?_⟩
  have e2 : (2 ≤ line) = True := eq_true (by decide)
  have e9 : (9 ≤ line) = True := eq_true (by decide)
  simp only [e2, e9, true_and]
  exact t14 F hn hd sV V0 v sz hk
theorem fm_ifG {α : Type} (c : α → Bool) (f : α → D) : ∀ ns : List α, ns.filterMap (fun n => if c n = true then some (f n) else none) = (ns.filter c).map f
  | [] => rfl
  | n :: ns => by
    cases h : c n with
    | true => rw [List.filterMap_cons_some (b := f n) (by simp only [h, if_true]), List.filter_cons_of_pos h, List.map_cons, fm_ifG c f ns]
    | false => rw [List.filterMap_cons_none (by simp only [h, Bool.false_eq_true, if_false]), List.filter_cons_of_neg (by simp [h]), fm_ifG c f ns]
theorem told_tail {v g : Rat} (hv : 0 ≤ v) (hg : 0 < g) : (((toldOf v g).filter fun p => !decide (p.1 < g)).map fun p => p.2).sum = one1 v g := by
  unfold toldOf
  by_cases h : v = 0
  · rw [if_pos h]
    have e : (!decide ((0 : Rat) < g)) = false := by simp [hg]
    rw [List.filter_cons_of_neg (by simp [hg]), h]
    unfold one1
    simp
    rw [Rat.div_def, Rat.zero_mul]
  · rw [if_neg h]
    have hv' : 0 < v := by grind
    have hd : 0 < v / g := by rw [Rat.lt_div_iff hg, Rat.zero_mul]; exact hv'
    have h1 : 0 - v / g < g := by grind
    have h2 : ¬ g < g := by grind
    rw [List.filter_cons_of_neg (by simp only [decide_eq_true h1]; decide), List.filter_cons_of_pos (by simp only [decide_eq_false h2]; decide)]
    simp
    grind
theorem told_len {v g : Rat} : (toldOf v g).length = if v = 0 then 1 else 2 := by
  unfold toldOf
  split <;> rfl
theorem siz_pDs : ∀ l : List (Rat × Rat), sizs (l.map pD) = 7 * l.length
  | [] => rfl
  | p :: l => by
    have e : sizs ((p :: l).map pD) = siz (pD p) + sizs (l.map pD) := rfl
    rw [e, siz_pDs l]
    show 7 + 7 * l.length = 7 * (l.length + 1)
    omega
theorem pds_pD : ∀ l : List (Rat × Rat), pds (l.map pD) = true
  | [] => rfl
  | p :: l => by
    show (pd (pD p) && pds (l.map pD)) = true
    rw [pds_pD l]; rfl
/-- a spread's own numbers -/
theorem b6 (F : MF m) {n : Nat} {w g : Rat} (hd : Dr n M) (sw : Sz 64 w) (w0 : 0 ≤ w) (sg : Sz 30 g) (g0 : 0 < g) (hk : ∀ z24, K.nx [a0, .val (.tok 2), a2, a3, a4, a5, a6, a7, a8, a9, a10, a11, .val (rD g), a13, a14, a15, .val (rD w), a17, a18, a19, a20, a21, a22, a23, z24, a25, a26, a27] M) : ws m B_law_6 E [a0, .val (.tok 2), a2, a3, a4, a5, a6, a7, a8, a9, a10, a11, .val (rD g), a13, a14, a15, .val (rD w), a17, a18, a19, a20, a21, a22, a23, a24, a25, a26, a27] M K := by
  have on : ∀ {f : Rat → Rat → D} {Q : D → Ms → Prop} {E : Ex}, Q (f w g) M → (spOn f).run [rD w, rD g] M Q E := fun {f Q E} h => ⟨rD w, rD g, rfl, ⟨rfl, rfl, fun v hv => by
    rcases hv with e | e
    · rw [← rD_inj.mp e]; exact sw.mono (by decide)
    · rw [← rD_inj.mp e]; exact sg.mono (by decide)⟩, fun v x e1 e2 _ _ => by rw [← rD_inj.mp e1, ← rD_inj.mp e2]; exact h, fun h => absurd ⟨w, rfl, w0⟩ h, fun _ h => absurd ⟨g, rfl, g0⟩ h⟩
  have tv := told_vn w0 g0
  have tz := told_nz sw sg w0 g0
  have tl : (toldOf w g).length ≤ 2 := by rw [told_len]; split <;> omega
  have tsz : ∀ p ∈ toldOf w g, Sz 400 p.1 ∧ Sz 400 p.2 := fun p hp => by
    unfold toldOf at hp
    by_cases h : w = 0
    · rw [if_pos h] at hp
      rw [List.mem_singleton.mp hp]
      exact ⟨sz0.mono (by decide), sz1.mono (by decide)⟩
    · rw [if_neg h] at hp
      have p0 := g2_pos w0 g0
      have so : Sz 190 (one1 w g) := (sw.div (sw.add (sg.mul sg)) (by grind)).mono (by decide)
      have sd : Sz 100 (0 - w / g) := (sz0.sub (sw.div sg (by grind))).mono (by decide)
      simp only [List.mem_cons, List.not_mem_nil, or_false] at hp
      rcases hp with rfl | rfl
      · exact ⟨sd.mono (by decide), (sz1.sub so).mono (by decide)⟩
      · exact ⟨sg.mono (by decide), so.mono (by decide)⟩
  simp only [B_law_6, ws, wx, wl, wi, opd, prt, tst, val, ownv, startR, w1, w2, wII, wint, wb, bt, opt, sq, sqL, sqi, tyOf, isTy, setp, sets, wsl, cturn, fl, cl, List.map_cons, List.map_nil, List.length_cons, List.length_nil, List.nil_append, List.cons_append, List.append_nil, List.replicate, List.getElem?_cons_zero, List.getElem?_cons_succ, List.getElem?_nil, List.set_cons_zero, List.set_cons_succ, List.set_nil, Nat.zero_add, Nat.reduceAdd, Nat.reduceSub, Nat.sub_self, Nat.reduceLT, Nat.lt_add_one, Nat.zero_lt_succ, true_and, and_true, if_true, if_false, Bool.true_eq, Bool.false_eq_true, reduceIte, isNon, List.all_cons, List.all_nil, List.any_cons, List.any_nil, Bool.and_true, Bool.true_and, Bool.or_false, Bool.false_or, Bool.and_false, Bool.false_and, Bool.or_true, Bool.true_or, Bool.not_true, Bool.not_false, Bool.xor_false, Bool.false_xor, Bool.true_xor, Bool.xor_true, List.isEmpty_nil, List.isEmpty_cons, clr, atI_0, atI_1, atI_2, atI_n1, asBls, asInts, dEq_int, dOk_int, dDep_int, Nat.min_self, decide_eq_true_eq, Nat.zero_le, Nat.not_lt_zero, List.cons.injEq, exists_eq_left', exists_and_left, Option.map_some, id_eq, decide_true, decide_false, Bool.not_eq_true, ne_eq, not_true_eq_false, not_false_eq_true, F.f19]
  refine on ?_
  simp only [T_law_5, ws, wx, wl, wi, opd, prt, tst, val, ownv, startR, w1, w2, wII, wint, wb, bt, opt, sq, sqL, sqi, tyOf, isTy, setp, sets, wsl, cturn, fl, cl, List.map_cons, List.map_nil, List.length_cons, List.length_nil, List.nil_append, List.cons_append, List.append_nil, List.replicate, List.getElem?_cons_zero, List.getElem?_cons_succ, List.getElem?_nil, List.set_cons_zero, List.set_cons_succ, List.set_nil, Nat.zero_add, Nat.reduceAdd, Nat.reduceSub, Nat.sub_self, Nat.reduceLT, Nat.lt_add_one, Nat.zero_lt_succ, true_and, and_true, if_true, if_false, Bool.true_eq, Bool.false_eq_true, reduceIte, isNon, List.all_cons, List.all_nil, List.any_cons, List.any_nil, Bool.and_true, Bool.true_and, Bool.or_false, Bool.false_or, Bool.and_false, Bool.false_and, Bool.or_true, Bool.true_or, Bool.not_true, Bool.not_false, Bool.xor_false, Bool.false_xor, Bool.true_xor, Bool.xor_true, List.isEmpty_nil, List.isEmpty_cons, clr, atI_0, atI_1, atI_2, atI_n1, asBls, asInts, dEq_int, dOk_int, dDep_int, Nat.min_self, decide_eq_true_eq, Nat.zero_le, Nat.not_lt_zero, List.cons.injEq, exists_eq_left', exists_and_left, Option.map_some, id_eq, decide_true, decide_false, Bool.not_eq_true, ne_eq, not_true_eq_false, not_false_eq_true, F.f13, F.f26, F.f19]
  refine ⟨numD (toldOf w g), rfl, ⟨pl_num (by omega), sm_num (k := 400) (by decide) tsz, fun l e _ => by rw [← numD_inj e]; exact tz⟩, fun l e _ => ?_, fun h => absurd ⟨_, rfl, tv⟩ h⟩
  rw [← numD_inj e, told_mean w0 g0, told_var w0 g0]
  refine ⟨by decide, by decide, _, rfl, ⟨rfl, (by show 7 ≤ 1000000; decide)⟩, ?_⟩
  simp only [ws, wx, wl, wi, opd, prt, tst, val, ownv, startR, w1, w2, wII, wint, wb, bt, opt, sq, sqL, sqi, tyOf, isTy, setp, sets, wsl, cturn, fl, cl, List.map_cons, List.map_nil, List.length_cons, List.length_nil, List.nil_append, List.cons_append, List.append_nil, List.replicate, List.getElem?_cons_zero, List.getElem?_cons_succ, List.getElem?_nil, List.set_cons_zero, List.set_cons_succ, List.set_nil, Nat.zero_add, Nat.reduceAdd, Nat.reduceSub, Nat.sub_self, Nat.reduceLT, Nat.lt_add_one, Nat.zero_lt_succ, true_and, and_true, if_true, if_false, Bool.true_eq, Bool.false_eq_true, reduceIte, isNon, List.all_cons, List.all_nil, List.any_cons, List.any_nil, Bool.and_true, Bool.true_and, Bool.or_false, Bool.false_or, Bool.and_false, Bool.false_and, Bool.or_true, Bool.true_or, Bool.not_true, Bool.not_false, Bool.xor_false, Bool.false_xor, Bool.true_xor, Bool.xor_true, List.isEmpty_nil, List.isEmpty_cons, clr, atI_0, atI_1, atI_2, atI_n1, asBls, asInts, dEq_int, dOk_int, dDep_int, Nat.min_self, decide_eq_true_eq, Nat.zero_le, Nat.not_lt_zero, List.cons.injEq, exists_eq_left', exists_and_left, Option.map_some, id_eq, decide_true, decide_false, Bool.not_eq_true, ne_eq, not_true_eq_false, not_false_eq_true]
  show (spOn _).run [rD w, rD g] _ _ _
  refine on ?_
  refine ⟨numD (toldOf w g), rfl, ⟨pds_pD _, ?_⟩, ?_⟩
  · show 1 + sizs ((toldOf w g).map pD) ≤ 1000000
    rw [siz_pDs]; omega
  have t4 : ws m T_law_4 E [a0, .val (.tok 2), a2, a3, a4, a5, a6, a7, a8, a9, a10, a11, .val (rD g), a13, a14, a15, .val (rD w), a17, a18, a19, a20, a21, a22, a23, .val (numD (toldOf w g)), a25, a26, a27] M K := by
    simp only [T_law_4, ws, wx, wl, wi, opd, prt, tst, val, ownv, startR, w1, w2, wII, wint, wb, bt, opt, sq, sqL, sqi, tyOf, isTy, setp, sets, wsl, cturn, fl, cl, List.map_cons, List.map_nil, List.length_cons, List.length_nil, List.nil_append, List.cons_append, List.append_nil, List.replicate, List.getElem?_cons_zero, List.getElem?_cons_succ, List.getElem?_nil, List.set_cons_zero, List.set_cons_succ, List.set_nil, Nat.zero_add, Nat.reduceAdd, Nat.reduceSub, Nat.sub_self, Nat.reduceLT, Nat.lt_add_one, Nat.zero_lt_succ, true_and, and_true, if_true, if_false, Bool.true_eq, Bool.false_eq_true, reduceIte, isNon, List.all_cons, List.all_nil, List.any_cons, List.any_nil, Bool.and_true, Bool.true_and, Bool.or_false, Bool.false_or, Bool.and_false, Bool.false_and, Bool.or_true, Bool.true_or, Bool.not_true, Bool.not_false, Bool.xor_false, Bool.false_xor, Bool.true_xor, Bool.xor_true, List.isEmpty_nil, List.isEmpty_cons, clr, atI_0, atI_1, atI_2, atI_n1, asBls, asInts, dEq_int, dOk_int, dDep_int, Nat.min_self, decide_eq_true_eq, Nat.zero_le, Nat.not_lt_zero, List.cons.injEq, exists_eq_left', exists_and_left, Option.map_some, id_eq, decide_true, decide_false, Bool.not_eq_true, ne_eq, not_true_eq_false, not_false_eq_true, F.f33, F.f17]
    have sT : Sz 4000 g := sg.mono (by decide)
    refine ⟨by rw [List.length_map]; unfold line; omega, cl_map _ (fun p => if (!decide (p.1 < g)) = true then some (rD p.2) else none) (fun p hp K' hK' => ?_) ?_⟩
    · simp only [ws, wx, wl, wi, opd, prt, tst, val, ownv, startR, w1, w2, wII, wint, wb, bt, opt, sq, sqL, sqi, tyOf, isTy, setp, sets, wsl, cturn, fl, cl, List.map_cons, List.map_nil, List.length_cons, List.length_nil, List.nil_append, List.cons_append, List.append_nil, List.replicate, List.getElem?_cons_zero, List.getElem?_cons_succ, List.getElem?_nil, List.set_cons_zero, List.set_cons_succ, List.set_nil, Nat.zero_add, Nat.reduceAdd, Nat.reduceSub, Nat.sub_self, Nat.reduceLT, Nat.lt_add_one, Nat.zero_lt_succ, true_and, and_true, if_true, if_false, Bool.true_eq, Bool.false_eq_true, reduceIte, isNon, List.all_cons, List.all_nil, List.any_cons, List.any_nil, Bool.and_true, Bool.true_and, Bool.or_false, Bool.false_or, Bool.and_false, Bool.false_and, Bool.or_true, Bool.true_or, Bool.not_true, Bool.not_false, Bool.xor_false, Bool.false_xor, Bool.true_xor, Bool.xor_true, List.isEmpty_nil, List.isEmpty_cons, clr, atI_0, atI_1, atI_2, atI_n1, asBls, asInts, dEq_int, dOk_int, dDep_int, Nat.min_self, decide_eq_true_eq, Nat.zero_le, Nat.not_lt_zero, List.cons.injEq, exists_eq_left', exists_and_left, Option.map_some, id_eq, decide_true, decide_false, Bool.not_eq_true, ne_eq, not_true_eq_false, not_false_eq_true, pD, F.f32]
      refine ⟨by simp, p.1, g, rfl, ⟨(tsz p hp).1.mono (by decide), sT⟩, ?_⟩
      cases c : decide (p.1 < g) with
      | true => rw [c] at hK'; exact hK'
      | false => rw [c] at hK'; exact hK'
    · rw [fm_ifG (fun p : Rat × Rat => !decide (p.1 < g)) fun p => rD p.2]
      obtain ⟨N, B, S, N0, S0, hN, hB, hS, hf⟩ := tz.ex
      refine ⟨((toldOf w g).filter fun p => !decide (p.1 < g)).map fun p => p.2, S, S, by rw [List.map_map]; rfl, ⟨S0, lt_pow hS (by decide), big4 ?_ (le3000 (Nat.le_of_lt hS) (by decide)), fun q hq => ?_⟩, ?_⟩
      · rw [List.length_map]
        have := List.length_filter_le (fun p : Rat × Rat => !decide (p.1 < g)) (toldOf w g)
        omega
      · obtain ⟨p, hp, rfl⟩ := List.mem_map.mp hq
        exact (hf p (List.mem_filter.mp hp).1).2
      · rw [told_tail w0 g0]
        refine on ?_
        refine ⟨rfl, rfl, by rw [dDep_rD]; decide, ?_⟩
        rw [dEq_rD]
        simp only [decide_true, ws, wx, wl, wi, opd, prt, tst, val, ownv, startR, w1, w2, wII, wint, wb, bt, opt, sq, sqL, sqi, tyOf, isTy, setp, sets, wsl, cturn, fl, cl, List.map_cons, List.map_nil, List.length_cons, List.length_nil, List.nil_append, List.cons_append, List.append_nil, List.replicate, List.getElem?_cons_zero, List.getElem?_cons_succ, List.getElem?_nil, List.set_cons_zero, List.set_cons_succ, List.set_nil, Nat.zero_add, Nat.reduceAdd, Nat.reduceSub, Nat.sub_self, Nat.reduceLT, Nat.lt_add_one, Nat.zero_lt_succ, true_and, and_true, if_true, if_false, Bool.true_eq, Bool.false_eq_true, reduceIte, isNon, List.all_cons, List.all_nil, List.any_cons, List.any_nil, Bool.and_true, Bool.true_and, Bool.or_false, Bool.false_or, Bool.and_false, Bool.false_and, Bool.or_true, Bool.true_or, Bool.not_true, Bool.not_false, Bool.xor_false, Bool.false_xor, Bool.true_xor, Bool.xor_true, List.isEmpty_nil, List.isEmpty_cons, clr, atI_0, atI_1, atI_2, atI_n1, asBls, asInts, dEq_int, dOk_int, dDep_int, Nat.min_self, decide_eq_true_eq, Nat.zero_le, Nat.not_lt_zero, List.cons.injEq, exists_eq_left', exists_and_left, Option.map_some, id_eq, decide_true, decide_false, Bool.not_eq_true, ne_eq, not_true_eq_false, not_false_eq_true]
        exact hk _
  simp only [ws, wx, wl, wi, opd, prt, tst, val, ownv, startR, w1, w2, wII, wint, wb, bt, opt, sq, sqL, sqi, tyOf, isTy, setp, sets, wsl, cturn, fl, cl, List.map_cons, List.map_nil, List.length_cons, List.length_nil, List.nil_append, List.cons_append, List.append_nil, List.replicate, List.getElem?_cons_zero, List.getElem?_cons_succ, List.getElem?_nil, List.set_cons_zero, List.set_cons_succ, List.set_nil, Nat.zero_add, Nat.reduceAdd, Nat.reduceSub, Nat.sub_self, Nat.reduceLT, Nat.lt_add_one, Nat.zero_lt_succ, true_and, and_true, if_true, if_false, Bool.true_eq, Bool.false_eq_true, reduceIte, isNon, List.all_cons, List.all_nil, List.any_cons, List.any_nil, Bool.and_true, Bool.true_and, Bool.or_false, Bool.false_or, Bool.and_false, Bool.false_and, Bool.or_true, Bool.true_or, Bool.not_true, Bool.not_false, Bool.xor_false, Bool.false_xor, Bool.true_xor, Bool.xor_true, List.isEmpty_nil, List.isEmpty_cons, clr, atI_0, atI_1, atI_2, atI_n1, asBls, asInts, dEq_int, dOk_int, dDep_int, Nat.min_self, decide_eq_true_eq, Nat.zero_le, Nat.not_lt_zero, List.cons.injEq, exists_eq_left', exists_and_left, Option.map_some, id_eq, decide_true, decide_false, Bool.not_eq_true, ne_eq, not_true_eq_false, not_false_eq_true, rD]
  by_cases h : w = 0
  · have e : (w.num == 0) = true := by rw [h]; rfl
    refine Eq.mpr (if_pos e) (Eq.mpr (if_neg ?_) t4)
    rw [List.length_map, told_len, if_pos h]
    decide
  · have e : ¬ (w.num == 0) = true := by
      intro z
      exact h (Rat.num_eq_zero.mp (eq_of_beq z))
    refine Eq.mpr (if_neg e) (Eq.mpr (if_neg ?_) t4)
    rw [List.length_map, told_len, if_neg h]
    decide
end
end K75

set_option Elab.async false
set_option linter.all false
set_option maxRecDepth 100000
set_option maxHeartbeats 4000000
set_option exponentiation.threshold 100000
/-! the turn: bounds -/
namespace K75
open PySem PySem.Spec PyProof.Rows L2 PV

theorem sz_small {n d : Int} {k : Nat} (hn : n.natAbs < 2 ^ k) (hd : 0 < d) (hd2 : d.natAbs < 2 ^ k) : Sz k (Rat.divInt n d) := sz_divInt hn hd2 (by omega)
theorem sm2_off (l : List (Rat × Rat)) : sm2 (shift (meanOf l) l) = varOf l := by
  unfold sm2 shift varOf
  rw [List.map_map]; rfl
theorem off_pos {l : List (Rat × Rat)} (v : VN l) (c : Rat) : ∀ p ∈ shift c l, 0 ≤ p.2 := fun p hp => by
  obtain ⟨q, hq, rfl⟩ := List.mem_map.mp hp
  have := (v.pos q hq).1
  show 0 ≤ q.2
  grind
theorem smF_le {c : Rat → Bool} : ∀ {l : List (Rat × Rat)}, (∀ p ∈ l, 0 ≤ p.2) → smF c l ≤ sm0 l
  | [], _ => by simp [smF, sm0]
  | p :: l, h => by
    have ih := smF_le (c := c) (l := l) fun q hq => h q (by simp [hq])
    have h0 := h p (by simp)
    rw [smF_cons, show sm0 (p :: l) = p.2 + sm0 l by unfold sm0; rw [List.map_cons, List.sum_cons]]
    split <;> grind
theorem rD_abs (r : Rat) : D.tup [.int (r.num.natAbs : Int), .int r.den] = rD (if r < 0 then -r else r) := by
  split
  · rename_i h
    have h1 : r.num < 0 := by
      have := (Rat.num_nonneg (q := r))
      grind
    show D.tup [.int (r.num.natAbs : Int), .int r.den] = D.tup [.int (-r.num), .int r.den]
    rw [show (r.num.natAbs : Int) = -r.num by omega]
  · rename_i h
    have h1 : 0 ≤ r.num := Rat.num_nonneg.mpr (Rat.not_lt.mp h)
    show D.tup [.int (r.num.natAbs : Int), .int r.den] = D.tup [.int r.num, .int r.den]
    rw [show (r.num.natAbs : Int) = r.num by omega]
theorem map2 (xs : List (Rat × Rat)) : xs.map (fun p => rD p.2) = (xs.map fun p => p.2).map rD := by rw [List.map_map]; rfl
theorem off_one {l : List (Rat × Rat)} (v : VN l) {g : Rat} (g0 : 0 < g) : ¬ one1 (varOf l) g < smF (fun y => !decide (y < g)) (shift (meanOf l) l) := by
  have h1 : sm1 (shift (meanOf l) l) = 0 := by
    rw [sm1_shift, show sm0 l = 1 from v.one, show sm1 l = meanOf l from rfl]; grind
  have h := cantelli (off_pos v (meanOf l)) (by rw [sm0_shift]; exact v.one) h1 g0
  have n2 := sm2_nonneg (off_pos v (meanOf l))
  rw [sm2_off] at h n2
  have p0 := g2_pos n2 g0
  unfold one1
  intro c
  rw [Rat.div_lt_iff p0] at c
  exact absurd c (Rat.not_lt.mpr h)
theorem off_both {l : List (Rat × Rat)} (v : VN l) {g : Rat} (g0 : 0 < g) : ¬ both1 (varOf l) g < smF (fun y => !decide ((if y < 0 then -y else y) < g)) (shift (meanOf l) l) := by
  have h := cheb_le (by grind) (off_pos v (meanOf l)) (t := g)
  rw [sm2_off] at h
  have p0 := Rat.mul_pos g0 g0
  unfold both1
  split
  · intro c
    rw [Rat.div_lt_iff p0] at c
    exact absurd c (Rat.not_lt.mpr h)
  · have h3 := smF_le (c := fun y => !decide ((if y < 0 then -y else y) < g)) (off_pos v (meanOf l))
    rw [sm0_shift, show sm0 l = 1 from v.one] at h3
    exact Rat.not_lt.mpr h3
section
variable {m : Sm} {M : Ms} {E : Ex} {K : Kn} {a0 a1 a2 a3 a4 a5 a6 a7 a8 a9 a10 a11 a12 a13 a14 a15 a16 a17 a18 a19 a20 a21 a22 a23 a24 a25 a26 a27 : Sl}
theorem t16 (F : MF m) {n : Nat} {g V : Rat} {l : List (Rat × Rat)} (hn : n < 2 ^ 28) (hd : Dr n M) (sV : Sz 64 V) (V0 : 0 ≤ V) (sg : Sz 30 g) (g0 : 0 < g) (v : VN l) (sz : ∀ p ∈ l, Sz 100 p.1 ∧ Sz 100 p.2)
    (hk : ∀ (s : List Sl) M', s.length = 26 → Dr (n + 5) M' → K.nx (a0 :: .val (.tok 2) :: s) M') : ws m T_law_16 E [a0, .val (.tok 2), a2, .val (numD l), a4, a5, .val (rD V), a7, a8, a9, a10, a11, .val (rD g), a13, a14, a15, a16, a17, a18, a19, a20, a21, a22, a23, a24, a25, a26, a27] M K := by
  simp only [T_law_16, ws, wx, wl, wi, opd, prt, tst, val, ownv, startR, w1, w2, wII, wint, wb, bt, opt, sq, sqL, sqi, tyOf, isTy, setp, sets, wsl, cturn, fl, cl, List.map_cons, List.map_nil, List.length_cons, List.length_nil, List.nil_append, List.cons_append, List.append_nil, List.replicate, List.getElem?_cons_zero, List.getElem?_cons_succ, List.getElem?_nil, List.set_cons_zero, List.set_cons_succ, List.set_nil, Nat.zero_add, Nat.reduceAdd, Nat.reduceSub, Nat.sub_self, Nat.reduceLT, Nat.lt_add_one, Nat.zero_lt_succ, true_and, and_true, if_true, if_false, Bool.true_eq, Bool.false_eq_true, reduceIte, isNon, List.all_cons, List.all_nil, List.any_cons, List.any_nil, Bool.and_true, Bool.true_and, Bool.or_false, Bool.false_or, Bool.and_false, Bool.false_and, Bool.or_true, Bool.true_or, Bool.not_true, Bool.not_false, Bool.xor_false, Bool.false_xor, Bool.true_xor, Bool.xor_true, List.isEmpty_nil, List.isEmpty_cons, clr, atI_0, atI_1, atI_2, atI_n1, asBls, asInts, dEq_int, dOk_int, dDep_int, Nat.min_self, decide_eq_true_eq, Nat.zero_le, Nat.not_lt_zero, List.cons.injEq, exists_eq_left', exists_and_left, Option.map_some, id_eq, decide_true, decide_false, Bool.not_eq_true, ne_eq, not_true_eq_false, not_false_eq_true, F.f22, F.f27]
  refine ⟨by decide, _, n, rfl, ⟨by decide, by decide, by omega, hd⟩, fun a M1 h0 h1 hd1 => ?_⟩
  refine ⟨_, n + 1, rfl, ⟨by decide, by decide, by omega, hd1⟩, fun b M2 b0 b1 hd2 => ?_⟩
  simp only [ws, wx, wl, wi, opd, prt, tst, val, ownv, startR, w1, w2, wII, wint, wb, bt, opt, sq, sqL, sqi, tyOf, isTy, setp, sets, wsl, cturn, fl, cl, List.map_cons, List.map_nil, List.length_cons, List.length_nil, List.nil_append, List.cons_append, List.append_nil, List.replicate, List.getElem?_cons_zero, List.getElem?_cons_succ, List.getElem?_nil, List.set_cons_zero, List.set_cons_succ, List.set_nil, Nat.zero_add, Nat.reduceAdd, Nat.reduceSub, Nat.sub_self, Nat.reduceLT, Nat.lt_add_one, Nat.zero_lt_succ, true_and, and_true, if_true, if_false, Bool.true_eq, Bool.false_eq_true, reduceIte, isNon, List.all_cons, List.all_nil, List.any_cons, List.any_nil, Bool.and_true, Bool.true_and, Bool.or_false, Bool.false_or, Bool.and_false, Bool.false_and, Bool.or_true, Bool.true_or, Bool.not_true, Bool.not_false, Bool.xor_false, Bool.false_xor, Bool.true_xor, Bool.xor_true, List.isEmpty_nil, List.isEmpty_cons, clr, atI_0, atI_1, atI_2, atI_n1, asBls, asInts, dEq_int, dOk_int, dDep_int, Nat.min_self, decide_eq_true_eq, Nat.zero_le, Nat.not_lt_zero, List.cons.injEq, exists_eq_left', exists_and_left, Option.map_some, id_eq, decide_true, decide_false, Bool.not_eq_true, ne_eq, not_true_eq_false, not_false_eq_true]
  refine ⟨a, 1 + b, rfl, by omega, Nat.lt_of_lt_of_le (show (1 + b).natAbs < 2 ^ 4 by omega) (Nat.pow_le_pow_right (by decide) (by decide)), ?_⟩
  refine ⟨by decide, b6 F hd2 sV V0 sg g0 fun z24 => ⟨by show 16 < 28; decide, ?_⟩⟩
  refine b6 F (w := 0) hd2 ⟨by decide, by decide⟩ (by decide) sg g0 fun y24 => ⟨by show 16 < 28; decide, ?_⟩
  refine b6 F (w := Rat.divInt a (1 + b)) hd2 (sz_small (k := 64) (Nat.lt_of_lt_of_le (show a.natAbs < 2 ^ 5 by omega) (Nat.pow_le_pow_right (by decide) (by decide))) (by omega) (Nat.lt_of_lt_of_le (show (1 + b).natAbs < 2 ^ 4 by omega) (Nat.pow_le_pow_right (by decide) (by decide)))) (Rat.divInt_nonneg h0 (by omega)) sg g0 fun x24 => ?_
  exact t15 F (by omega) hd2 sV V0 v sz fun s M' h1 h2 => hk s M' h1 (by exact (show n + 1 + 1 + 3 = n + 5 by omega) ▸ h2)
theorem t17 (F : MF m) {n N S : Nat} {g : Rat} {l : List (Rat × Rat)} (t : TF l N S) (hn : n < 2 ^ 28) (hd : Dr n M) (sg : Sz 30 g) (g0 : 0 < g)
    (hk : ∀ (s : List Sl) M', s.length = 26 → Dr (n + 5) M' → K.nx (a0 :: .val (.tok 2) :: s) M') : ws m T_law_17 E [a0, .val (.tok 2), a2, .val (numD l), a4, .val (.lst ((offOf l (meanOf l)).map pD)), .val (rD (varOf l)), a7, a8, a9, a10, a11, .val (rD g), a13, a14, .val (rD (both1 (varOf l) g)), a16, a17, a18, a19, a20, a21, a22, a23, a24, a25, a26, a27] M K := by
  have V0 : 0 ≤ varOf l := by rw [← sm2_off]; exact sm2_nonneg (off_pos t.vn _)
  have l8 := t.vn.len8
  simp only [T_law_17, ws, wx, wl, wi, opd, prt, tst, val, ownv, startR, w1, w2, wII, wint, wb, bt, opt, sq, sqL, sqi, tyOf, isTy, setp, sets, wsl, cturn, fl, cl, List.map_cons, List.map_nil, List.length_cons, List.length_nil, List.nil_append, List.cons_append, List.append_nil, List.replicate, List.getElem?_cons_zero, List.getElem?_cons_succ, List.getElem?_nil, List.set_cons_zero, List.set_cons_succ, List.set_nil, Nat.zero_add, Nat.reduceAdd, Nat.reduceSub, Nat.sub_self, Nat.reduceLT, Nat.lt_add_one, Nat.zero_lt_succ, true_and, and_true, if_true, if_false, Bool.true_eq, Bool.false_eq_true, reduceIte, isNon, List.all_cons, List.all_nil, List.any_cons, List.any_nil, Bool.and_true, Bool.true_and, Bool.or_false, Bool.false_or, Bool.and_false, Bool.false_and, Bool.or_true, Bool.true_or, Bool.not_true, Bool.not_false, Bool.xor_false, Bool.false_xor, Bool.true_xor, Bool.xor_true, List.isEmpty_nil, List.isEmpty_cons, clr, atI_0, atI_1, atI_2, atI_n1, asBls, asInts, dEq_int, dOk_int, dDep_int, Nat.min_self, decide_eq_true_eq, Nat.zero_le, Nat.not_lt_zero, List.cons.injEq, exists_eq_left', exists_and_left, Option.map_some, id_eq, decide_true, decide_false, Bool.not_eq_true, ne_eq, not_true_eq_false, not_false_eq_true, F.f32, F.f33]
  have tz : ∀ p ∈ offOf l (meanOf l), Sz 30 p.1 := fun p hp => by
    obtain ⟨q, hq, rfl⟩ := List.mem_map.mp hp
    exact t.szo q hq
  have lo : (offOf l (meanOf l)).length = l.length := List.length_map ..
  have sb : Sz 200 (both1 (varOf l) g) := by
    unfold both1
    split
    · exact (t.szV.div (sg.mul sg) (Rat.ne_of_gt (Rat.mul_pos g0 g0))).mono (by decide)
    · exact sz1.mono (by decide)
  refine ⟨by rw [List.length_map]; unfold line; omega, cl_map _ (fun p => if (!decide ((if p.1 < 0 then -p.1 else p.1) < g)) = true then some (rD p.2) else none) (fun p hp K' hK' => ?_) ?_⟩
  · simp only [ws, wx, wl, wi, opd, prt, tst, val, ownv, startR, w1, w2, wII, wint, wb, bt, opt, sq, sqL, sqi, tyOf, isTy, setp, sets, wsl, cturn, fl, cl, List.map_cons, List.map_nil, List.length_cons, List.length_nil, List.nil_append, List.cons_append, List.append_nil, List.replicate, List.getElem?_cons_zero, List.getElem?_cons_succ, List.getElem?_nil, List.set_cons_zero, List.set_cons_succ, List.set_nil, Nat.zero_add, Nat.reduceAdd, Nat.reduceSub, Nat.sub_self, Nat.reduceLT, Nat.lt_add_one, Nat.zero_lt_succ, true_and, and_true, if_true, if_false, Bool.true_eq, Bool.false_eq_true, reduceIte, isNon, List.all_cons, List.all_nil, List.any_cons, List.any_nil, Bool.and_true, Bool.true_and, Bool.or_false, Bool.false_or, Bool.and_false, Bool.false_and, Bool.or_true, Bool.true_or, Bool.not_true, Bool.not_false, Bool.xor_false, Bool.false_xor, Bool.true_xor, Bool.xor_true, List.isEmpty_nil, List.isEmpty_cons, clr, atI_0, atI_1, atI_2, atI_n1, asBls, asInts, dEq_int, dOk_int, dDep_int, Nat.min_self, decide_eq_true_eq, Nat.zero_le, Nat.not_lt_zero, List.cons.injEq, exists_eq_left', exists_and_left, Option.map_some, id_eq, decide_true, decide_false, Bool.not_eq_true, ne_eq, not_true_eq_false, not_false_eq_true, pD, F.f32]
    refine ⟨by simp, by decide, (if p.1 < 0 then -p.1 else p.1), g, by rw [← rD_abs], ⟨?_, sg.mono (by decide)⟩, ?_⟩
    · have := (tz p hp).mono (show 30 ≤ 4000 by decide)
      split
      · exact ⟨by show (-p.1.num).natAbs < _; rw [Int.natAbs_neg]; exact this.1, this.2⟩
      · exact this
    · cases c : decide ((if p.1 < 0 then -p.1 else p.1) < g) with
      | true => rw [c] at hK'; exact hK'
      | false => rw [c] at hK'; exact hK'
  · rw [fm_ifG (fun p : Rat × Rat => !decide ((if p.1 < 0 then -p.1 else p.1) < g)) fun p => rD p.2]
    have hm : ∀ q ∈ ((offOf l (meanOf l)).filter fun p => !decide ((if p.1 < 0 then -p.1 else p.1) < g)).map (fun p => p.2), ∃ p ∈ l, q = p.2 := fun q hq => by
      obtain ⟨p, hp, rfl⟩ := List.mem_map.mp hq
      obtain ⟨r, hr, rfl⟩ := List.mem_map.mp (List.mem_filter.mp hp).1
      exact ⟨r, hr, rfl⟩
    have hl : (((offOf l (meanOf l)).filter fun p => !decide ((if p.1 < 0 then -p.1 else p.1) < g)).map (fun p => p.2)).length ≤ 8 := by
      rw [List.length_map]
      have := List.length_filter_le (fun p : Rat × Rat => !decide ((if p.1 < 0 then -p.1 else p.1) < g)) (offOf l (meanOf l))
      omega
    have nb : ¬ both1 (varOf l) g < (((offOf l (meanOf l)).filter fun p => !decide ((if p.1 < 0 then -p.1 else p.1) < g)).map (fun p => p.2)).sum := off_both t.vn g0
    rw [List.nil_append, map2]
    refine t.sumc hl hm ⟨_, _, rfl, ⟨sb.mono (by decide), (t.szsum hl hm).mono (by decide)⟩, ?_⟩
    rw [decide_eq_false nb]
    exact t16 F hn hd t.szV V0 sg g0 t.vn (fun p hp => ⟨(t.szp p hp).mono (by decide), (t.szc p hp).mono (by decide)⟩) hk
theorem t18 (F : MF m) {n N S : Nat} {g : Rat} {l : List (Rat × Rat)} (t : TF l N S) (hn : n < 2 ^ 28) (hd : Dr n M) (sg : Sz 30 g) (g0 : 0 < g)
    (hk : ∀ (s : List Sl) M', s.length = 26 → Dr (n + 5) M' → K.nx (a0 :: .val (.tok 2) :: s) M') : ws m T_law_18 E [a0, .val (.tok 2), a2, .val (numD l), a4, .val (.lst ((offOf l (meanOf l)).map pD)), .val (rD (varOf l)), a7, a8, a9, a10, a11, .val (rD g), .val (rD (one1 (varOf l) g)), a14, .val (rD (both1 (varOf l) g)), a16, a17, a18, a19, a20, a21, a22, a23, a24, a25, a26, a27] M K := by
  have V0 : 0 ≤ varOf l := by rw [← sm2_off]; exact sm2_nonneg (off_pos t.vn _)
  have l8 := t.vn.len8
  simp only [T_law_18, ws, wx, wl, wi, opd, prt, tst, val, ownv, startR, w1, w2, wII, wint, wb, bt, opt, sq, sqL, sqi, tyOf, isTy, setp, sets, wsl, cturn, fl, cl, List.map_cons, List.map_nil, List.length_cons, List.length_nil, List.nil_append, List.cons_append, List.append_nil, List.replicate, List.getElem?_cons_zero, List.getElem?_cons_succ, List.getElem?_nil, List.set_cons_zero, List.set_cons_succ, List.set_nil, Nat.zero_add, Nat.reduceAdd, Nat.reduceSub, Nat.sub_self, Nat.reduceLT, Nat.lt_add_one, Nat.zero_lt_succ, true_and, and_true, if_true, if_false, Bool.true_eq, Bool.false_eq_true, reduceIte, isNon, List.all_cons, List.all_nil, List.any_cons, List.any_nil, Bool.and_true, Bool.true_and, Bool.or_false, Bool.false_or, Bool.and_false, Bool.false_and, Bool.or_true, Bool.true_or, Bool.not_true, Bool.not_false, Bool.xor_false, Bool.false_xor, Bool.true_xor, Bool.xor_true, List.isEmpty_nil, List.isEmpty_cons, clr, atI_0, atI_1, atI_2, atI_n1, asBls, asInts, dEq_int, dOk_int, dDep_int, Nat.min_self, decide_eq_true_eq, Nat.zero_le, Nat.not_lt_zero, List.cons.injEq, exists_eq_left', exists_and_left, Option.map_some, id_eq, decide_true, decide_false, Bool.not_eq_true, ne_eq, not_true_eq_false, not_false_eq_true, F.f32, F.f33]
  have tz : ∀ p ∈ offOf l (meanOf l), Sz 30 p.1 := fun p hp => by
    obtain ⟨q, hq, rfl⟩ := List.mem_map.mp hp
    exact t.szo q hq
  have lo : (offOf l (meanOf l)).length = l.length := List.length_map ..
  have p0 := g2_pos V0 g0
  have sb : Sz 200 (one1 (varOf l) g) := (t.szV.div (t.szV.add (sg.mul sg)) (by grind)).mono (by decide)
  refine ⟨by rw [List.length_map]; unfold line; omega, cl_map _ (fun p => if (!decide (p.1 < g)) = true then some (rD p.2) else none) (fun p hp K' hK' => ?_) ?_⟩
  · simp only [ws, wx, wl, wi, opd, prt, tst, val, ownv, startR, w1, w2, wII, wint, wb, bt, opt, sq, sqL, sqi, tyOf, isTy, setp, sets, wsl, cturn, fl, cl, List.map_cons, List.map_nil, List.length_cons, List.length_nil, List.nil_append, List.cons_append, List.append_nil, List.replicate, List.getElem?_cons_zero, List.getElem?_cons_succ, List.getElem?_nil, List.set_cons_zero, List.set_cons_succ, List.set_nil, Nat.zero_add, Nat.reduceAdd, Nat.reduceSub, Nat.sub_self, Nat.reduceLT, Nat.lt_add_one, Nat.zero_lt_succ, true_and, and_true, if_true, if_false, Bool.true_eq, Bool.false_eq_true, reduceIte, isNon, List.all_cons, List.all_nil, List.any_cons, List.any_nil, Bool.and_true, Bool.true_and, Bool.or_false, Bool.false_or, Bool.and_false, Bool.false_and, Bool.or_true, Bool.true_or, Bool.not_true, Bool.not_false, Bool.xor_false, Bool.false_xor, Bool.true_xor, Bool.xor_true, List.isEmpty_nil, List.isEmpty_cons, clr, atI_0, atI_1, atI_2, atI_n1, asBls, asInts, dEq_int, dOk_int, dDep_int, Nat.min_self, decide_eq_true_eq, Nat.zero_le, Nat.not_lt_zero, List.cons.injEq, exists_eq_left', exists_and_left, Option.map_some, id_eq, decide_true, decide_false, Bool.not_eq_true, ne_eq, not_true_eq_false, not_false_eq_true, pD, F.f32]
    refine ⟨by simp, p.1, g, rfl, ⟨(tz p hp).mono (by decide), sg.mono (by decide)⟩, ?_⟩
    cases c : decide (p.1 < g) with
    | true => rw [c] at hK'; exact hK'
    | false => rw [c] at hK'; exact hK'
  · rw [fm_ifG (fun p : Rat × Rat => !decide (p.1 < g)) fun p => rD p.2]
    have hm : ∀ q ∈ ((offOf l (meanOf l)).filter fun p => !decide (p.1 < g)).map (fun p => p.2), ∃ p ∈ l, q = p.2 := fun q hq => by
      obtain ⟨p, hp, rfl⟩ := List.mem_map.mp hq
      obtain ⟨r, hr, rfl⟩ := List.mem_map.mp (List.mem_filter.mp hp).1
      exact ⟨r, hr, rfl⟩
    have hl : (((offOf l (meanOf l)).filter fun p => !decide (p.1 < g)).map (fun p => p.2)).length ≤ 8 := by
      rw [List.length_map]
      have := List.length_filter_le (fun p : Rat × Rat => !decide (p.1 < g)) (offOf l (meanOf l))
      omega
    have nb : ¬ one1 (varOf l) g < (((offOf l (meanOf l)).filter fun p => !decide (p.1 < g)).map (fun p => p.2)).sum := off_one t.vn g0
    rw [List.nil_append, map2]
    refine t.sumc hl hm ⟨_, _, rfl, ⟨sb.mono (by decide), (t.szsum hl hm).mono (by decide)⟩, ?_⟩
    rw [decide_eq_false nb]
    exact t17 F t hn hd sg g0 hk
end
end K75

set_option Elab.async false
set_option linter.all false
set_option maxRecDepth 100000
set_option maxHeartbeats 4000000
set_option exponentiation.threshold 100000
/-! the turn: the bounds told twice -/
namespace K75
open PySem PySem.Spec PyProof.Rows L2 PV
def spSq : PV.Spec where
  run ds M Q E := ∃ q : Rat, ds = [rD q] ∧ Sz 4000 q ∧ Q (rD (q * q)) M
  mono := fun ⟨a, h1, h2, h3⟩ q _ => ⟨a, h1, h2, q _ _ h3⟩
section
variable {m : Sm} {M : Ms} {E : Ex} {K : Kn} {a0 a1 a2 a3 a4 a5 a6 a7 a8 a9 a10 a11 a12 a13 a14 a15 a16 a17 a18 a19 a20 a21 a22 a23 a24 a25 a26 a27 : Sl}
theorem t19 (F : MF m) {n N S : Nat} {g : Rat} {l : List (Rat × Rat)} (t : TF l N S) (hn : n < 2 ^ 28) (hd : Dr n M) (sg : Sz 30 g) (g0 : 0 < g)
    (hk : ∀ (s : List Sl) M', s.length = 26 → Dr (n + 5) M' → K.nx (a0 :: .val (.tok 2) :: s) M') : ws m T_law_19 E [a0, .val (.tok 2), a2, .val (numD l), a4, .val (.lst ((offOf l (meanOf l)).map pD)), .val (rD (varOf l)), a7, a8, a9, a10, a11, .val (rD g), .val (rD (one1 (varOf l) g)), a14, .val (rD (both1 (varOf l) g)), a16, a17, a18, a19, a20, a21, a22, a23, a24, a25, a26, a27] M K := by
  have V0 : 0 ≤ varOf l := by rw [← sm2_off]; exact sm2_nonneg (off_pos t.vn _)
  have on : ∀ {f : Rat → Rat → D} {Q : D → Ms → Prop} {E : Ex}, Q (f (varOf l) g) M → (spOn f).run [rD (varOf l), rD g] M Q E := fun {f Q E} h => ⟨rD (varOf l), rD g, rfl, ⟨rfl, rfl, fun v hv => by
    rcases hv with e | e
    · rw [← rD_inj.mp e]; exact t.szV.mono (by decide)
    · rw [← rD_inj.mp e]; exact sg.mono (by decide)⟩, fun v x e1 e2 _ _ => by rw [← rD_inj.mp e1, ← rD_inj.mp e2]; exact h, fun h => absurd ⟨varOf l, rfl, V0⟩ h, fun _ h => absurd ⟨g, rfl, g0⟩ h⟩
  simp only [T_law_19, ws, wx, wl, wi, opd, prt, tst, val, ownv, startR, w1, w2, wII, wint, wb, bt, opt, sq, sqL, sqi, tyOf, isTy, setp, sets, wsl, cturn, fl, cl, List.map_cons, List.map_nil, List.length_cons, List.length_nil, List.nil_append, List.cons_append, List.append_nil, List.replicate, List.getElem?_cons_zero, List.getElem?_cons_succ, List.getElem?_nil, List.set_cons_zero, List.set_cons_succ, List.set_nil, Nat.zero_add, Nat.reduceAdd, Nat.reduceSub, Nat.sub_self, Nat.reduceLT, Nat.lt_add_one, Nat.zero_lt_succ, true_and, and_true, if_true, if_false, Bool.true_eq, Bool.false_eq_true, reduceIte, isNon, List.all_cons, List.all_nil, List.any_cons, List.any_nil, Bool.and_true, Bool.true_and, Bool.or_false, Bool.false_or, Bool.and_false, Bool.false_and, Bool.or_true, Bool.true_or, Bool.not_true, Bool.not_false, Bool.xor_false, Bool.false_xor, Bool.true_xor, Bool.xor_true, List.isEmpty_nil, List.isEmpty_cons, clr, atI_0, atI_1, atI_2, atI_n1, asBls, asInts, dEq_int, dOk_int, dDep_int, Nat.min_self, decide_eq_true_eq, Nat.zero_le, Nat.not_lt_zero, List.cons.injEq, exists_eq_left', exists_and_left, Option.map_some, id_eq, decide_true, decide_false, Bool.not_eq_true, ne_eq, not_true_eq_false, not_false_eq_true, F.f26, F.f17, F.f18]
  refine on (on (f := fun v g => rD (one1 v g)) (on (on (f := fun v g => rD (both1 v g)) ⟨by decide, by decide, _, rfl, ⟨rfl, by show 13 ≤ 1000000; decide⟩, ?_⟩)))
  exact t18 F t hn hd sg g0 hk
theorem t20 (F : MF m) {n N S : Nat} {g : Rat} {l : List (Rat × Rat)} (t : TF l N S) (hn : n < 2 ^ 28) (hd : Dr n M) (sg : Sz 30 g) (g0 : 0 < g)
    (hk : ∀ (s : List Sl) M', s.length = 26 → Dr (n + 5) M' → K.nx (a0 :: .val (.tok 2) :: s) M') : ws m T_law_20 E [a0, .val (.tok 2), a2, .val (numD l), a4, .val (.lst ((offOf l (meanOf l)).map pD)), .val (rD (varOf l)), a7, a8, a9, a10, a11, .val (rD g), .val (rD (one1 (varOf l) g)), .val (rD (varOf l / (g * g))), a15, a16, a17, a18, a19, a20, a21, a22, a23, a24, a25, a26, a27] M K := by
  have sq : Sz 200 (varOf l / (g * g)) := (t.szV.div (sg.mul sg) (by have := Rat.mul_pos g0 g0; grind)).mono (by decide)
  simp only [T_law_20, ws, wx, wl, wi, opd, prt, tst, val, ownv, startR, w1, w2, wII, wint, wb, bt, opt, sq, sqL, sqi, tyOf, isTy, setp, sets, wsl, cturn, fl, cl, List.map_cons, List.map_nil, List.length_cons, List.length_nil, List.nil_append, List.cons_append, List.append_nil, List.replicate, List.getElem?_cons_zero, List.getElem?_cons_succ, List.getElem?_nil, List.set_cons_zero, List.set_cons_succ, List.set_nil, Nat.zero_add, Nat.reduceAdd, Nat.reduceSub, Nat.sub_self, Nat.reduceLT, Nat.lt_add_one, Nat.zero_lt_succ, true_and, and_true, if_true, if_false, Bool.true_eq, Bool.false_eq_true, reduceIte, isNon, List.all_cons, List.all_nil, List.any_cons, List.any_nil, Bool.and_true, Bool.true_and, Bool.or_false, Bool.false_or, Bool.and_false, Bool.false_and, Bool.or_true, Bool.true_or, Bool.not_true, Bool.not_false, Bool.xor_false, Bool.false_xor, Bool.true_xor, Bool.xor_true, List.isEmpty_nil, List.isEmpty_cons, clr, atI_0, atI_1, atI_2, atI_n1, asBls, asInts, dEq_int, dOk_int, dDep_int, Nat.min_self, decide_eq_true_eq, Nat.zero_le, Nat.not_lt_zero, List.cons.injEq, exists_eq_left', exists_and_left, Option.map_some, id_eq, decide_true, decide_false, Bool.not_eq_true, ne_eq, not_true_eq_false, not_false_eq_true, F.f32]
  refine ⟨by decide, varOf l / (g * g), 1, rfl, ⟨sq.mono (by decide), sz1.mono (by decide)⟩, ?_⟩
  have e : ∀ b, b = both1 (varOf l) g → ws m T_law_19 E [a0, .val (.tok 2), a2, .val (numD l), a4, .val (.lst ((offOf l (meanOf l)).map pD)), .val (rD (varOf l)), a7, a8, a9, a10, a11, .val (rD g), .val (rD (one1 (varOf l) g)), .val (rD (varOf l / (g * g))), .val (rD b), a16, a17, a18, a19, a20, a21, a22, a23, a24, a25, a26, a27] M K := by
    rintro _ rfl
    exact t19 F t hn hd sg g0 hk
  by_cases c : varOf l / (g * g) < 1
  · simp only [decide_eq_true c, ws, wx, wl, wi, opd, prt, tst, val, ownv, startR, w1, w2, wII, wint, wb, bt, opt, sq, sqL, sqi, tyOf, isTy, setp, sets, wsl, cturn, fl, cl, List.map_cons, List.map_nil, List.length_cons, List.length_nil, List.nil_append, List.cons_append, List.append_nil, List.replicate, List.getElem?_cons_zero, List.getElem?_cons_succ, List.getElem?_nil, List.set_cons_zero, List.set_cons_succ, List.set_nil, Nat.zero_add, Nat.reduceAdd, Nat.reduceSub, Nat.sub_self, Nat.reduceLT, Nat.lt_add_one, Nat.zero_lt_succ, true_and, and_true, if_true, if_false, Bool.true_eq, Bool.false_eq_true, reduceIte, isNon, List.all_cons, List.all_nil, List.any_cons, List.any_nil, Bool.and_true, Bool.true_and, Bool.or_false, Bool.false_or, Bool.and_false, Bool.false_and, Bool.or_true, Bool.true_or, Bool.not_true, Bool.not_false, Bool.xor_false, Bool.false_xor, Bool.true_xor, Bool.xor_true, List.isEmpty_nil, List.isEmpty_cons, clr, atI_0, atI_1, atI_2, atI_n1, asBls, asInts, dEq_int, dOk_int, dDep_int, Nat.min_self, decide_eq_true_eq, Nat.zero_le, Nat.not_lt_zero, List.cons.injEq, exists_eq_left', exists_and_left, Option.map_some, id_eq, decide_true, decide_false, Bool.not_eq_true, ne_eq, not_true_eq_false, not_false_eq_true, if_true]
    exact e _ (by unfold both1; rw [if_pos c])
  · simp only [decide_eq_false c, ws, wx, wl, wi, opd, prt, tst, val, ownv, startR, w1, w2, wII, wint, wb, bt, opt, sq, sqL, sqi, tyOf, isTy, setp, sets, wsl, cturn, fl, cl, List.map_cons, List.map_nil, List.length_cons, List.length_nil, List.nil_append, List.cons_append, List.append_nil, List.replicate, List.getElem?_cons_zero, List.getElem?_cons_succ, List.getElem?_nil, List.set_cons_zero, List.set_cons_succ, List.set_nil, Nat.zero_add, Nat.reduceAdd, Nat.reduceSub, Nat.sub_self, Nat.reduceLT, Nat.lt_add_one, Nat.zero_lt_succ, true_and, and_true, if_true, if_false, Bool.true_eq, Bool.false_eq_true, reduceIte, isNon, List.all_cons, List.all_nil, List.any_cons, List.any_nil, Bool.and_true, Bool.true_and, Bool.or_false, Bool.false_or, Bool.and_false, Bool.false_and, Bool.or_true, Bool.true_or, Bool.not_true, Bool.not_false, Bool.xor_false, Bool.false_xor, Bool.true_xor, Bool.xor_true, List.isEmpty_nil, List.isEmpty_cons, clr, atI_0, atI_1, atI_2, atI_n1, asBls, asInts, dEq_int, dOk_int, dDep_int, Nat.min_self, decide_eq_true_eq, Nat.zero_le, Nat.not_lt_zero, List.cons.injEq, exists_eq_left', exists_and_left, Option.map_some, id_eq, decide_true, decide_false, Bool.not_eq_true, ne_eq, not_true_eq_false, not_false_eq_true]
    exact ⟨by decide, e 1 (by unfold both1; rw [if_neg c])⟩
theorem t21 (F : MF m) (f36 : m.fn 36 = spSq) {n N S : Nat} {g : Rat} {l : List (Rat × Rat)} (t : TF l N S) (hn : n < 2 ^ 28) (hd : Dr n M) (sg : Sz 30 g) (g0 : 0 < g)
    (hk : ∀ (s : List Sl) M', s.length = 26 → Dr (n + 5) M' → K.nx (a0 :: .val (.tok 2) :: s) M') : ws m T_law_21 E [a0, .val (.tok 2), a2, .val (numD l), a4, .val (.lst ((offOf l (meanOf l)).map pD)), .val (rD (varOf l)), a7, a8, a9, a10, a11, .val (rD g), a13, a14, a15, a16, a17, a18, a19, a20, a21, a22, a23, a24, a25, a26, a27] M K := by
  have V0 : 0 ≤ varOf l := by rw [← sm2_off]; exact sm2_nonneg (off_pos t.vn _)
  have p0 := g2_pos V0 g0
  have gg := Rat.mul_pos g0 g0
  have z4 := sg.mono (show 30 ≤ 4000 by decide)
  have V4 := t.szV.mono (show 64 ≤ 4000 by decide)
  have q4 := (sg.mul sg).mono (show _ ≤ 4000 by decide)
  simp only [T_law_21, ws, wx, wl, wi, opd, prt, tst, val, ownv, startR, w1, w2, wII, wint, wb, bt, opt, sq, sqL, sqi, tyOf, isTy, setp, sets, wsl, cturn, fl, cl, List.map_cons, List.map_nil, List.length_cons, List.length_nil, List.nil_append, List.cons_append, List.append_nil, List.replicate, List.getElem?_cons_zero, List.getElem?_cons_succ, List.getElem?_nil, List.set_cons_zero, List.set_cons_succ, List.set_nil, Nat.zero_add, Nat.reduceAdd, Nat.reduceSub, Nat.sub_self, Nat.reduceLT, Nat.lt_add_one, Nat.zero_lt_succ, true_and, and_true, if_true, if_false, Bool.true_eq, Bool.false_eq_true, reduceIte, isNon, List.all_cons, List.all_nil, List.any_cons, List.any_nil, Bool.and_true, Bool.true_and, Bool.or_false, Bool.false_or, Bool.and_false, Bool.false_and, Bool.or_true, Bool.true_or, Bool.not_true, Bool.not_false, Bool.xor_false, Bool.false_xor, Bool.true_xor, Bool.xor_true, List.isEmpty_nil, List.isEmpty_cons, clr, atI_0, atI_1, atI_2, atI_n1, asBls, asInts, dEq_int, dOk_int, dDep_int, Nat.min_self, decide_eq_true_eq, Nat.zero_le, Nat.not_lt_zero, List.cons.injEq, exists_eq_left', exists_and_left, Option.map_some, id_eq, decide_true, decide_false, Bool.not_eq_true, ne_eq, not_true_eq_false, not_false_eq_true, F.f31, F.f28, f36]
  refine ⟨g, rfl, z4, varOf l, g * g, rfl, ⟨V4, q4, trivial⟩, varOf l, varOf l + g * g, rfl, ⟨V4, (t.szV.add (sg.mul sg)).mono (by decide), num_ne.mpr (by grind)⟩, g, rfl, z4, varOf l, g * g, rfl, ⟨V4, q4, num_ne.mpr (by grind)⟩, ?_⟩
  exact t20 F t hn hd sg g0 hk
theorem t22 (F : MF m) (f36 : m.fn 36 = spSq) {n N S : Nat} {fs : List Rat} {l : List (Rat × Rat)} (t : TF l N S) (hn : n < 2 ^ 27) (hd : Dr n M) (hf : ∀ q ∈ fs, Sz 30 q ∧ 0 < q) (fl : fs.length ≤ 8)
    (hk : ∀ (s : List Sl) M', s.length = 26 → Dr (n + 8) M' → K.nx (a0 :: .val (.tok 2) :: s) M') : ws m T_law_22 E [a0, .val (.tok 2), a2, .val (numD l), a4, .val (.lst ((offOf l (meanOf l)).map pD)), .val (rD (varOf l)), a7, a8, a9, a10, .val (.lst (fs.map rD)), a12, a13, a14, a15, a16, a17, a18, a19, a20, a21, a22, a23, a24, a25, a26, a27] M K := by
  simp only [T_law_22, ws, wx, wl, wi, opd, prt, tst, val, ownv, startR, w1, w2, wII, wint, wb, bt, opt, sq, sqL, sqi, tyOf, isTy, setp, sets, wsl, cturn, fl, cl, List.map_cons, List.map_nil, List.length_cons, List.length_nil, List.nil_append, List.cons_append, List.append_nil, List.replicate, List.getElem?_cons_zero, List.getElem?_cons_succ, List.getElem?_nil, List.set_cons_zero, List.set_cons_succ, List.set_nil, Nat.zero_add, Nat.reduceAdd, Nat.reduceSub, Nat.sub_self, Nat.reduceLT, Nat.lt_add_one, Nat.zero_lt_succ, true_and, and_true, if_true, if_false, Bool.true_eq, Bool.false_eq_true, reduceIte, isNon, List.all_cons, List.all_nil, List.any_cons, List.any_nil, Bool.and_true, Bool.true_and, Bool.or_false, Bool.false_or, Bool.and_false, Bool.false_and, Bool.or_true, Bool.true_or, Bool.not_true, Bool.not_false, Bool.xor_false, Bool.false_xor, Bool.true_xor, Bool.xor_true, List.isEmpty_nil, List.isEmpty_cons, clr, atI_0, atI_1, atI_2, atI_n1, asBls, asInts, dEq_int, dOk_int, dDep_int, Nat.min_self, decide_eq_true_eq, Nat.zero_le, Nat.not_lt_zero, List.cons.injEq, exists_eq_left', exists_and_left, Option.map_some, id_eq, decide_true, decide_false, Bool.not_eq_true, ne_eq, not_true_eq_false, not_false_eq_true, F.f22, F.f27, F.f23]
  refine ⟨_, n, rfl, ⟨by decide, by decide, by omega, hd⟩, fun a M1 h0 h1 hd1 => ?_⟩
  refine ⟨_, n + 1, rfl, ⟨by decide, by decide, by omega, hd1⟩, fun b M2 b0 b1 hd2 => ?_⟩
  simp only [ws, wx, wl, wi, opd, prt, tst, val, ownv, startR, w1, w2, wII, wint, wb, bt, opt, sq, sqL, sqi, tyOf, isTy, setp, sets, wsl, cturn, fl, cl, List.map_cons, List.map_nil, List.length_cons, List.length_nil, List.nil_append, List.cons_append, List.append_nil, List.replicate, List.getElem?_cons_zero, List.getElem?_cons_succ, List.getElem?_nil, List.set_cons_zero, List.set_cons_succ, List.set_nil, Nat.zero_add, Nat.reduceAdd, Nat.reduceSub, Nat.sub_self, Nat.reduceLT, Nat.lt_add_one, Nat.zero_lt_succ, true_and, and_true, if_true, if_false, Bool.true_eq, Bool.false_eq_true, reduceIte, isNon, List.all_cons, List.all_nil, List.any_cons, List.any_nil, Bool.and_true, Bool.true_and, Bool.or_false, Bool.false_or, Bool.and_false, Bool.false_and, Bool.or_true, Bool.true_or, Bool.not_true, Bool.not_false, Bool.xor_false, Bool.false_xor, Bool.true_xor, Bool.xor_true, List.isEmpty_nil, List.isEmpty_cons, clr, atI_0, atI_1, atI_2, atI_n1, asBls, asInts, dEq_int, dOk_int, dDep_int, Nat.min_self, decide_eq_true_eq, Nat.zero_le, Nat.not_lt_zero, List.cons.injEq, exists_eq_left', exists_and_left, Option.map_some, id_eq, decide_true, decide_false, Bool.not_eq_true, ne_eq, not_true_eq_false, not_false_eq_true]
  refine ⟨1 + a, 1 + b, rfl, by omega, Nat.lt_of_lt_of_le (show (1 + b).natAbs < 2 ^ 4 by omega) (Nat.pow_le_pow_right (by decide) (by decide)), by decide, by rw [List.length_map] <;> (unfold line; omega), ?_⟩
  refine ⟨_, n + 2, rfl, ⟨by simp, by rw [List.length_append, List.length_map, List.length_singleton]; omega, by omega, hd2⟩, fun x M3 hx hd3 => ?_⟩
  have ge : ∃ g, x = rD g ∧ Sz 30 g ∧ 0 < g := by
    rcases List.mem_append.mp hx with h | h
    · obtain ⟨q, hq, rfl⟩ := List.mem_map.mp h
      exact ⟨q, rfl, hf q hq⟩
    · refine ⟨_, List.mem_singleton.mp h, sz_small (Nat.lt_of_lt_of_le (show (1 + a).natAbs < 2 ^ 5 by omega) (Nat.pow_le_pow_right (by decide) (by decide))) (by omega) (Nat.lt_of_lt_of_le (show (1 + b).natAbs < 2 ^ 4 by omega) (Nat.pow_le_pow_right (by decide) (by decide))), ?_⟩
      rw [Rat.divInt_eq_div, Rat.lt_div_iff (by exact_mod_cast (show 0 < 1 + b by omega)), Rat.zero_mul]
      exact_mod_cast (show 0 < 1 + a by omega)
  obtain ⟨g, rfl, sg, g0⟩ := ge
  exact t21 F f36 t (by omega) hd3 sg g0 fun s M' h1 h2 => hk s M' h1 ((show n + 2 + 1 + 5 = n + 8 by omega) ▸ h2)
theorem map1 (xs : List (Rat × Rat)) : xs.map (fun p => rD p.1) = (xs.map fun p => p.1).map rD := by rw [List.map_map]; rfl
theorem t23 (F : MF m) (f36 : m.fn 36 = spSq) {n N S : Nat} {l : List (Rat × Rat)} (t : TF l N S) (hn : n < 2 ^ 27) (hd : Dr n M)
    (hk : ∀ (s : List Sl) M', s.length = 26 → Dr (n + 8) M' → K.nx (a0 :: .val (.tok 2) :: s) M') : ws m T_law_23 E [a0, .val (.tok 2), a2, .val (numD l), a4, .val (.lst ((offOf l (meanOf l)).map pD)), .val (rD (varOf l)), a7, a8, a9, a10, a11, a12, a13, a14, a15, a16, a17, a18, a19, a20, a21, a22, a23, a24, a25, a26, a27] M K := by
  have l8 := t.vn.len8
  have lo : (offOf l (meanOf l)).length = l.length := List.length_map ..
  have tz : ∀ p ∈ offOf l (meanOf l), Sz 30 p.1 := fun p hp => by
    obtain ⟨q, hq, rfl⟩ := List.mem_map.mp hp
    exact t.szo q hq
  simp only [T_law_23, ws, wx, wl, wi, opd, prt, tst, val, ownv, startR, w1, w2, wII, wint, wb, bt, opt, sq, sqL, sqi, tyOf, isTy, setp, sets, wsl, cturn, fl, cl, List.map_cons, List.map_nil, List.length_cons, List.length_nil, List.nil_append, List.cons_append, List.append_nil, List.replicate, List.getElem?_cons_zero, List.getElem?_cons_succ, List.getElem?_nil, List.set_cons_zero, List.set_cons_succ, List.set_nil, Nat.zero_add, Nat.reduceAdd, Nat.reduceSub, Nat.sub_self, Nat.reduceLT, Nat.lt_add_one, Nat.zero_lt_succ, true_and, and_true, if_true, if_false, Bool.true_eq, Bool.false_eq_true, reduceIte, isNon, List.all_cons, List.all_nil, List.any_cons, List.any_nil, Bool.and_true, Bool.true_and, Bool.or_false, Bool.false_or, Bool.and_false, Bool.false_and, Bool.or_true, Bool.true_or, Bool.not_true, Bool.not_false, Bool.xor_false, Bool.false_xor, Bool.true_xor, Bool.xor_true, List.isEmpty_nil, List.isEmpty_cons, clr, atI_0, atI_1, atI_2, atI_n1, asBls, asInts, dEq_int, dOk_int, dDep_int, Nat.min_self, decide_eq_true_eq, Nat.zero_le, Nat.not_lt_zero, List.cons.injEq, exists_eq_left', exists_and_left, Option.map_some, id_eq, decide_true, decide_false, Bool.not_eq_true, ne_eq, not_true_eq_false, not_false_eq_true]
  refine ⟨by rw [List.length_map]; unfold line; omega, cl_map _ (fun p => if decide (0 < p.1.num) = true then some (rD p.1) else none) (fun p hp K' hK' => ?_) ?_⟩
  · simp only [ws, wx, wl, wi, opd, prt, tst, val, ownv, startR, w1, w2, wII, wint, wb, bt, opt, sq, sqL, sqi, tyOf, isTy, setp, sets, wsl, cturn, fl, cl, List.map_cons, List.map_nil, List.length_cons, List.length_nil, List.nil_append, List.cons_append, List.append_nil, List.replicate, List.getElem?_cons_zero, List.getElem?_cons_succ, List.getElem?_nil, List.set_cons_zero, List.set_cons_succ, List.set_nil, Nat.zero_add, Nat.reduceAdd, Nat.reduceSub, Nat.sub_self, Nat.reduceLT, Nat.lt_add_one, Nat.zero_lt_succ, true_and, and_true, if_true, if_false, Bool.true_eq, Bool.false_eq_true, reduceIte, isNon, List.all_cons, List.all_nil, List.any_cons, List.any_nil, Bool.and_true, Bool.true_and, Bool.or_false, Bool.false_or, Bool.and_false, Bool.false_and, Bool.or_true, Bool.true_or, Bool.not_true, Bool.not_false, Bool.xor_false, Bool.false_xor, Bool.true_xor, Bool.xor_true, List.isEmpty_nil, List.isEmpty_cons, clr, atI_0, atI_1, atI_2, atI_n1, asBls, asInts, dEq_int, dOk_int, dDep_int, Nat.min_self, decide_eq_true_eq, Nat.zero_le, Nat.not_lt_zero, List.cons.injEq, exists_eq_left', exists_and_left, Option.map_some, id_eq, decide_true, decide_false, Bool.not_eq_true, ne_eq, not_true_eq_false, not_false_eq_true, pD]
    refine ⟨by simp, ?_⟩
    show if 0 < p.1.num then K' (some (rD p.1)) M else K' none M
    by_cases c : 0 < p.1.num
    · rw [if_pos c]
      rw [decide_eq_true c] at hK'
      exact hK'
    · rw [if_neg c]
      rw [decide_eq_false c] at hK'
      exact hK'
  · rw [fm_ifG (fun p : Rat × Rat => decide (0 < p.1.num)) fun p => rD p.1, List.nil_append, map1]
    refine t22 F f36 t hn hd (fun q hq => ?_) ?_ hk
    · obtain ⟨p, hp, rfl⟩ := List.mem_map.mp hq
      obtain ⟨h1, h2⟩ := List.mem_filter.mp hp
      exact ⟨tz p h1, by have h3 := of_decide_eq_true h2; have h4 : ¬ p.1 ≤ 0 := fun z => absurd (Rat.num_nonneg.mpr (show 0 ≤ -p.1 by grind)) (by show ¬ 0 ≤ -p.1.num; omega); grind⟩
    · rw [List.length_map]
      have := List.length_filter_le (fun p : Rat × Rat => decide (0 < p.1.num)) (offOf l (meanOf l))
      omega
end
end K75

set_option Elab.async false
set_option linter.all false
set_option maxRecDepth 100000
set_option maxHeartbeats 4000000
set_option exponentiation.threshold 100000
/-! the turn: middles -/
namespace K75
open PySem PySem.Spec PyProof.Rows L2 PV
section
variable {m : Sm} {M : Ms} {E : Ex} {K : Kn} {a0 a1 a2 a3 a4 a5 a6 a7 a8 a9 a10 a11 a12 a13 a14 a15 a16 a17 a18 a19 a20 a21 a22 a23 a24 a25 a26 a27 : Sl}
theorem b3 (F : MF m) (f36 : m.fn 36 = spSq) {N S : Nat} {l : List (Rat × Rat)} {x : Rat} (t : TF l N S) (hx : x ∈ mids l) (hk : K.nx [a0, a1, a2, a3, .val (rD (meanOf l)), a5, .val (rD (varOf l)), a7, a8, a9, .val (rD x), a11, a12, a13, a14, a15, a16, a17, a18, a19, a20, a21, a22, a23, a24, a25, a26, a27] M) : ws m B_law_3 E [a0, a1, a2, a3, .val (rD (meanOf l)), a5, .val (rD (varOf l)), a7, a8, a9, .val (rD x), a11, a12, a13, a14, a15, a16, a17, a18, a19, a20, a21, a22, a23, a24, a25, a26, a27] M K := by
  have sx : Sz 20 x := by
    obtain ⟨pre, p, post, h, rfl, _, _⟩ := mids_mem (l := l) t.vn.one (pre := []) (rest := l) rfl hx
    exact t.szp p (by rw [h]; simp)
  have sd := sx.sub t.szm
  simp only [B_law_3, ws, wx, wl, wi, opd, prt, tst, val, ownv, startR, w1, w2, wII, wint, wb, bt, opt, sq, sqL, sqi, tyOf, isTy, setp, sets, wsl, cturn, fl, cl, List.map_cons, List.map_nil, List.length_cons, List.length_nil, List.nil_append, List.cons_append, List.append_nil, List.replicate, List.getElem?_cons_zero, List.getElem?_cons_succ, List.getElem?_nil, List.set_cons_zero, List.set_cons_succ, List.set_nil, Nat.zero_add, Nat.reduceAdd, Nat.reduceSub, Nat.sub_self, Nat.reduceLT, Nat.lt_add_one, Nat.zero_lt_succ, true_and, and_true, if_true, if_false, Bool.true_eq, Bool.false_eq_true, reduceIte, isNon, List.all_cons, List.all_nil, List.any_cons, List.any_nil, Bool.and_true, Bool.true_and, Bool.or_false, Bool.false_or, Bool.and_false, Bool.false_and, Bool.or_true, Bool.true_or, Bool.not_true, Bool.not_false, Bool.xor_false, Bool.false_xor, Bool.true_xor, Bool.xor_true, List.isEmpty_nil, List.isEmpty_cons, clr, atI_0, atI_1, atI_2, atI_n1, asBls, asInts, dEq_int, dOk_int, dDep_int, Nat.min_self, decide_eq_true_eq, Nat.zero_le, Nat.not_lt_zero, List.cons.injEq, exists_eq_left', exists_and_left, Option.map_some, id_eq, decide_true, decide_false, Bool.not_eq_true, ne_eq, not_true_eq_false, not_false_eq_true, F.f32, F.f29, f36]
  refine ⟨x, meanOf l, rfl, ⟨sx.mono (by decide), t.szm.mono (by decide), trivial⟩, x - meanOf l, rfl, sd.mono (by decide), varOf l, _, rfl, ⟨t.szV.mono (by decide), (sd.mul sd).mono (by decide)⟩, ?_⟩
  rw [decide_eq_false (Rat.not_lt.mpr (mids_near t.vn hx))]
  exact hk
theorem t24 (F : MF m) (f36 : m.fn 36 = spSq) {n N S : Nat} {l : List (Rat × Rat)} {x y : Rat} (t : TF l N S) (hx : x ∈ mids l) (hy : y ∈ mids l) (hn : n < 2 ^ 27) (hd : Dr n M)
    (hk : ∀ (s : List Sl) M', s.length = 26 → Dr (n + 8) M' → K.nx (a0 :: .val (.tok 2) :: s) M') : ws m T_law_24 E [a0, .val (.tok 2), a2, .val (numD l), .val (rD (meanOf l)), .val (.lst ((offOf l (meanOf l)).map pD)), .val (rD (varOf l)), a7, a8, .val (.tup [rD x, rD y]), a10, a11, a12, a13, a14, a15, a16, a17, a18, a19, a20, a21, a22, a23, a24, a25, a26, a27] M K := by
  simp only [T_law_24, ws, wx, wl, wi, opd, prt, tst, val, ownv, startR, w1, w2, wII, wint, wb, bt, opt, sq, sqL, sqi, tyOf, isTy, setp, sets, wsl, cturn, fl, cl, List.map_cons, List.map_nil, List.length_cons, List.length_nil, List.nil_append, List.cons_append, List.append_nil, List.replicate, List.getElem?_cons_zero, List.getElem?_cons_succ, List.getElem?_nil, List.set_cons_zero, List.set_cons_succ, List.set_nil, Nat.zero_add, Nat.reduceAdd, Nat.reduceSub, Nat.sub_self, Nat.reduceLT, Nat.lt_add_one, Nat.zero_lt_succ, true_and, and_true, if_true, if_false, Bool.true_eq, Bool.false_eq_true, reduceIte, isNon, List.all_cons, List.all_nil, List.any_cons, List.any_nil, Bool.and_true, Bool.true_and, Bool.or_false, Bool.false_or, Bool.and_false, Bool.false_and, Bool.or_true, Bool.true_or, Bool.not_true, Bool.not_false, Bool.xor_false, Bool.false_xor, Bool.true_xor, Bool.xor_true, List.isEmpty_nil, List.isEmpty_cons, clr, atI_0, atI_1, atI_2, atI_n1, asBls, asInts, dEq_int, dOk_int, dDep_int, Nat.min_self, decide_eq_true_eq, Nat.zero_le, Nat.not_lt_zero, List.cons.injEq, exists_eq_left', exists_and_left, Option.map_some, id_eq, decide_true, decide_false, Bool.not_eq_true, ne_eq, not_true_eq_false, not_false_eq_true]
  refine b3 F f36 t hx ?_
  refine ⟨by show 10 < 28; decide, ?_⟩
  refine b3 F f36 t hy ?_
  exact t23 F f36 t hn hd hk
theorem t25 (F : MF m) (f36 : m.fn 36 = spSq) {n N S : Nat} {l : List (Rat × Rat)} {x y : Rat} (t : TF l N S) (hx : (mids l).head? = some x) (hy : (mids l).getLast? = some y) (hn : n < 2 ^ 27) (hd : Dr n M)
    (hk : ∀ (s : List Sl) M', s.length = 26 → Dr (n + 8) M' → K.nx (a0 :: .val (.tok 2) :: s) M') : ws m T_law_25 E [a0, .val (.tok 2), a2, .val (numD l), .val (rD (meanOf l)), .val (.lst ((offOf l (meanOf l)).map pD)), .val (rD (varOf l)), a7, a8, .val (.tup [rD x, rD y]), a10, a11, a12, a13, a14, a15, a16, a17, a18, a19, a20, a21, a22, a23, a24, a25, a26, a27] M K := by
  have mid : ∀ {Q : D → Ms → Prop} {E : Ex}, Q (.tup [rD x, rD y]) M → spMid.run [numD l] M Q E := fun {Q E} h => ⟨numD l, rfl, ⟨pl_num (by have := t.vn.len8; omega), sm_num (k := 100) (by decide) fun p hp => ⟨(t.szp p hp).mono (by decide), (t.szc p hp).mono (by decide)⟩, fun l' e _ => by rw [← numD_inj e]; exact t.nz⟩, fun l' x' y' e _ e1 e2 => by
    rw [← numD_inj e] at e1 e2
    rw [hx] at e1
    rw [hy] at e2
    cases e1; cases e2
    exact h, fun h => absurd ⟨_, rfl, t.vn⟩ h⟩
  simp only [T_law_25, ws, wx, wl, wi, opd, prt, tst, val, ownv, startR, w1, w2, wII, wint, wb, bt, opt, sq, sqL, sqi, tyOf, isTy, setp, sets, wsl, cturn, fl, cl, List.map_cons, List.map_nil, List.length_cons, List.length_nil, List.nil_append, List.cons_append, List.append_nil, List.replicate, List.getElem?_cons_zero, List.getElem?_cons_succ, List.getElem?_nil, List.set_cons_zero, List.set_cons_succ, List.set_nil, Nat.zero_add, Nat.reduceAdd, Nat.reduceSub, Nat.sub_self, Nat.reduceLT, Nat.lt_add_one, Nat.zero_lt_succ, true_and, and_true, if_true, if_false, Bool.true_eq, Bool.false_eq_true, reduceIte, isNon, List.all_cons, List.all_nil, List.any_cons, List.any_nil, Bool.and_true, Bool.true_and, Bool.or_false, Bool.false_or, Bool.and_false, Bool.false_and, Bool.or_true, Bool.true_or, Bool.not_true, Bool.not_false, Bool.xor_false, Bool.false_xor, Bool.true_xor, Bool.xor_true, List.isEmpty_nil, List.isEmpty_cons, clr, atI_0, atI_1, atI_2, atI_n1, asBls, asInts, dEq_int, dOk_int, dDep_int, Nat.min_self, decide_eq_true_eq, Nat.zero_le, Nat.not_lt_zero, List.cons.injEq, exists_eq_left', exists_and_left, Option.map_some, id_eq, decide_true, decide_false, Bool.not_eq_true, ne_eq, not_true_eq_false, not_false_eq_true, F.f14, F.f26]
  refine mid (mid ⟨by decide, by decide, _, rfl, ⟨rfl, by show 15 ≤ 1000000; decide⟩, ?_⟩)
  exact t24 F f36 t (List.mem_of_head? hx) (List.mem_of_getLast? hy) hn hd hk
theorem t26 (F : MF m) (f36 : m.fn 36 = spSq) {n N S : Nat} {l : List (Rat × Rat)} (t : TF l N S) (hn : n < 2 ^ 27) (hd : Dr n M)
    (hk : ∀ (s : List Sl) M', s.length = 26 → Dr (n + 8) M' → K.nx (a0 :: .val (.tok 2) :: s) M') : ws m T_law_26 E [a0, .val (.tok 2), a2, .val (numD l), .val (rD (meanOf l)), .val (.lst ((offOf l (meanOf l)).map pD)), .val (rD (varOf l)), .own ((mids l).map rD), a8, a9, a10, a11, a12, a13, a14, a15, a16, a17, a18, a19, a20, a21, a22, a23, a24, a25, a26, a27] M K := by
  have ne := mids_vn t.vn
  obtain ⟨x, hx⟩ : ∃ x, (mids l).head? = some x := ⟨_, List.head?_eq_some_head ne⟩
  obtain ⟨y, hy⟩ : ∃ y, (mids l).getLast? = some y := ⟨_, List.getLast?_eq_some_getLast ne⟩
  have e0 : atI ((mids l).map rD) 0 = some (rD x) := by
    refine (PV.atI_nat (xs := (mids l).map rD) (n := 0)).trans ?_
    rw [List.getElem?_map, ← List.head?_eq_getElem?, hx]; rfl
  have e1 : ((mids l).map rD).getLast? = some (rD y) := by rw [List.getLast?_map, hy]; rfl
  simp only [T_law_26, ws, wx, wl, wi, opd, prt, tst, val, ownv, startR, w1, w2, wII, wint, wb, bt, opt, sq, sqL, sqi, tyOf, isTy, setp, sets, wsl, cturn, fl, cl, List.map_cons, List.map_nil, List.length_cons, List.length_nil, List.nil_append, List.cons_append, List.append_nil, List.replicate, List.getElem?_cons_zero, List.getElem?_cons_succ, List.getElem?_nil, List.set_cons_zero, List.set_cons_succ, List.set_nil, Nat.zero_add, Nat.reduceAdd, Nat.reduceSub, Nat.sub_self, Nat.reduceLT, Nat.lt_add_one, Nat.zero_lt_succ, true_and, and_true, if_true, if_false, Bool.true_eq, Bool.false_eq_true, reduceIte, isNon, List.all_cons, List.all_nil, List.any_cons, List.any_nil, Bool.and_true, Bool.true_and, Bool.or_false, Bool.false_or, Bool.and_false, Bool.false_and, Bool.or_true, Bool.true_or, Bool.not_true, Bool.not_false, Bool.xor_false, Bool.false_xor, Bool.true_xor, Bool.xor_true, List.isEmpty_nil, List.isEmpty_cons, clr, atI_0, atI_1, atI_2, atI_n1, asBls, asInts, dEq_int, dOk_int, dDep_int, Nat.min_self, decide_eq_true_eq, Nat.zero_le, Nat.not_lt_zero, List.cons.injEq, exists_eq_left', exists_and_left, Option.map_some, id_eq, decide_true, decide_false, Bool.not_eq_true, ne_eq, not_true_eq_false, not_false_eq_true, e0, e1]
  exact ⟨by decide, t25 F f36 t hx hy hn hd hk⟩
end
end K75

set_option Elab.async false
set_option linter.all false
set_option maxRecDepth 100000
set_option maxHeartbeats 4000000
set_option exponentiation.threshold 100000
/-! the turn: the law's own middles -/
namespace K75
open PySem PySem.Spec PyProof.Rows L2 PV
theorem cut_to {ds : List D} {k : Nat} : cut ds none (some (k : Int)) = ds.take k := by
  unfold cut HT.sIx
  have h0 : ¬ ((k : Int) < 0) := by omega
  simp only [if_neg h0, Int.toNat_natCast]
  show (ds.drop 0).take (min k ds.length - 0) = _
  rw [List.drop_zero, Nat.sub_zero]
  by_cases h : k ≤ ds.length
  · rw [Nat.min_eq_left h]
  · rw [Nat.min_eq_right (by omega), List.take_of_length_le (Nat.le_refl _), List.take_of_length_le (by omega)]
theorem rD_half : D.tup [.int 1, .int 2] = rD (1 / 2) := by
  unfold rD
  rw [show (1 / 2 : Rat).num = 1 from by decide +kernel, show (1 / 2 : Rat).den = 2 from by decide +kernel]; rfl
theorem take_snoc {l : List (Rat × Rat)} {k : Nat} {p : Rat × Rat} (h : l[k]? = some p) : l.take (k + 1) = l.take k ++ [p] := by
  rw [List.take_add_one, h]; rfl
theorem drop_cons {l : List (Rat × Rat)} {k : Nat} {p : Rat × Rat} (h : l[k]? = some p) : l.drop k = p :: l.drop (k + 1) := by
  obtain ⟨h1, h2⟩ := List.getElem?_eq_some_iff.mp h
  rw [List.drop_eq_getElem_cons h1, h2]
section
variable {m : Sm} {M : Ms} {E : Ex} {K : Kn} {a0 a1 a2 a3 a4 a5 a6 a7 a8 a9 a10 a11 a12 a13 a14 a15 a16 a17 a18 a19 a20 a21 a22 a23 a24 a25 a26 a27 : Sl}
theorem b2 (F : MF m) {N S : Nat} {l : List (Rat × Rat)} (t : TF l N S) {k : Nat} {p : Rat × Rat} (hp : l[k]? = some p) {fnd : List Rat} (hfl : fnd.length ≤ 8)
    (hk : ∀ s22 s23, K.nx [a0, a1, a2, .val (numD l), a4, a5, a6, .own ((if ¬ sm0 (l.take (k + 1)) < 1 / 2 ∧ ¬ sm0 (l.drop k) < 1 / 2 then fnd ++ [p.1] else fnd).map rD), .val (.int k), a9, a10, a11, a12, a13, a14, a15, a16, a17, a18, a19, a20, a21, s22, s23, a24, a25, a26, a27] M) :
    ws m B_law_2 E [a0, a1, a2, .val (numD l), a4, a5, a6, .own (fnd.map rD), .val (.int k), a9, a10, a11, a12, a13, a14, a15, a16, a17, a18, a19, a20, a21, a22, a23, a24, a25, a26, a27] M K := by
  have l8 := t.vn.len8
  have step : ∀ (xs : List (Rat × Rat)) (hx : ∀ p ∈ xs, p ∈ l) (hl : xs.length ≤ 8) {Q : D → PV.Ms → Prop} {E : Ex}, Q (rD (sm0 xs)) M → spSum.run [.lst (xs.map fun p => rD p.2)] M Q E := fun xs hx hl Q E h => by
    rw [map2]
    exact t.sumc (by rw [List.length_map]; exact hl) (fun q hq => by
      obtain ⟨r, hr, rfl⟩ := List.mem_map.mp hq
      exact ⟨r, hx r hr, rfl⟩) h
  have szz : ∀ (xs : List (Rat × Rat)) (hx : ∀ p ∈ xs, p ∈ l) (hl : xs.length ≤ 8), Sz 4000 (sm0 xs) := fun xs hx hl =>
    (t.szsum (qs := xs.map fun p => p.2) (by rw [List.length_map]; exact hl) (fun q hq => by
      obtain ⟨r, hr, rfl⟩ := List.mem_map.mp hq
      exact ⟨r, hx r hr, rfl⟩)).mono (by decide)
  have k1 : ((k : Int) + 1) = ((k + 1 : Nat) : Int) := rfl
  have tk : ∀ q ∈ l.take (k + 1), q ∈ l := fun q hq => List.mem_of_mem_take hq
  have dk : ∀ q ∈ l.drop k, q ∈ l := fun q hq => List.mem_of_mem_drop hq
  have tl : (l.take (k + 1)).length ≤ 8 := by rw [List.length_take]; omega
  have dl : (l.drop k).length ≤ 8 := by rw [List.length_drop]; omega
  simp only [B_law_2, ws, wx, wl, wi, opd, prt, tst, val, ownv, startR, w1, w2, wII, wint, wb, bt, opt, sq, sqL, sqi, tyOf, isTy, setp, sets, wsl, cturn, fl, cl, List.map_cons, List.map_nil, List.length_cons, List.length_nil, List.nil_append, List.cons_append, List.append_nil, List.replicate, List.getElem?_cons_zero, List.getElem?_cons_succ, List.getElem?_nil, List.set_cons_zero, List.set_cons_succ, List.set_nil, Nat.zero_add, Nat.reduceAdd, Nat.reduceSub, Nat.sub_self, Nat.reduceLT, Nat.lt_add_one, Nat.zero_lt_succ, true_and, and_true, if_true, if_false, Bool.true_eq, Bool.false_eq_true, reduceIte, isNon, List.all_cons, List.all_nil, List.any_cons, List.any_nil, Bool.and_true, Bool.true_and, Bool.or_false, Bool.false_or, Bool.and_false, Bool.false_and, Bool.or_true, Bool.true_or, Bool.not_true, Bool.not_false, Bool.xor_false, Bool.false_xor, Bool.true_xor, Bool.xor_true, List.isEmpty_nil, List.isEmpty_cons, clr, atI_0, atI_1, atI_2, atI_n1, asBls, asInts, dEq_int, dOk_int, dDep_int, Nat.min_self, decide_eq_true_eq, Nat.zero_le, Nat.not_lt_zero, List.cons.injEq, exists_eq_left', exists_and_left, Option.map_some, id_eq, decide_true, decide_false, Bool.not_eq_true, ne_eq, not_true_eq_false, not_false_eq_true, F.f33]
  rw [k1, cut_to, ← List.map_take]
  refine ⟨by rw [List.length_map]; unfold line; omega, cl_map _ (fun p => some (rD p.2)) (fun p hp K' hK' => ?_) ?_⟩
  · simp only [ws, wx, wl, wi, opd, prt, tst, val, ownv, startR, w1, w2, wII, wint, wb, bt, opt, sq, sqL, sqi, tyOf, isTy, setp, sets, wsl, cturn, fl, cl, List.map_cons, List.map_nil, List.length_cons, List.length_nil, List.nil_append, List.cons_append, List.append_nil, List.replicate, List.getElem?_cons_zero, List.getElem?_cons_succ, List.getElem?_nil, List.set_cons_zero, List.set_cons_succ, List.set_nil, Nat.zero_add, Nat.reduceAdd, Nat.reduceSub, Nat.sub_self, Nat.reduceLT, Nat.lt_add_one, Nat.zero_lt_succ, true_and, and_true, if_true, if_false, Bool.true_eq, Bool.false_eq_true, reduceIte, isNon, List.all_cons, List.all_nil, List.any_cons, List.any_nil, Bool.and_true, Bool.true_and, Bool.or_false, Bool.false_or, Bool.and_false, Bool.false_and, Bool.or_true, Bool.true_or, Bool.not_true, Bool.not_false, Bool.xor_false, Bool.false_xor, Bool.true_xor, Bool.xor_true, List.isEmpty_nil, List.isEmpty_cons, clr, atI_0, atI_1, atI_2, atI_n1, asBls, asInts, dEq_int, dOk_int, dDep_int, Nat.min_self, decide_eq_true_eq, Nat.zero_le, Nat.not_lt_zero, List.cons.injEq, exists_eq_left', exists_and_left, Option.map_some, id_eq, decide_true, decide_false, Bool.not_eq_true, ne_eq, not_true_eq_false, not_false_eq_true, pD]
    exact ⟨by simp, hK'⟩
  rw [fm_some, List.nil_append]
  refine step _ tk tl ?_
  rw [cut_from, ← List.map_drop]
  refine ⟨by rw [List.length_map]; unfold line; omega, cl_map _ (fun p => some (rD p.2)) (fun p hp K' hK' => ?_) ?_⟩
  · simp only [ws, wx, wl, wi, opd, prt, tst, val, ownv, startR, w1, w2, wII, wint, wb, bt, opt, sq, sqL, sqi, tyOf, isTy, setp, sets, wsl, cturn, fl, cl, List.map_cons, List.map_nil, List.length_cons, List.length_nil, List.nil_append, List.cons_append, List.append_nil, List.replicate, List.getElem?_cons_zero, List.getElem?_cons_succ, List.getElem?_nil, List.set_cons_zero, List.set_cons_succ, List.set_nil, Nat.zero_add, Nat.reduceAdd, Nat.reduceSub, Nat.sub_self, Nat.reduceLT, Nat.lt_add_one, Nat.zero_lt_succ, true_and, and_true, if_true, if_false, Bool.true_eq, Bool.false_eq_true, reduceIte, isNon, List.all_cons, List.all_nil, List.any_cons, List.any_nil, Bool.and_true, Bool.true_and, Bool.or_false, Bool.false_or, Bool.and_false, Bool.false_and, Bool.or_true, Bool.true_or, Bool.not_true, Bool.not_false, Bool.xor_false, Bool.false_xor, Bool.true_xor, Bool.xor_true, List.isEmpty_nil, List.isEmpty_cons, clr, atI_0, atI_1, atI_2, atI_n1, asBls, asInts, dEq_int, dOk_int, dDep_int, Nat.min_self, decide_eq_true_eq, Nat.zero_le, Nat.not_lt_zero, List.cons.injEq, exists_eq_left', exists_and_left, Option.map_some, id_eq, decide_true, decide_false, Bool.not_eq_true, ne_eq, not_true_eq_false, not_false_eq_true, pD]
    exact ⟨by simp, hK'⟩
  rw [fm_some, List.nil_append]
  refine step _ dk dl ?_
  simp only [T_law_1, ws, wx, wl, wi, opd, prt, tst, val, ownv, startR, w1, w2, wII, wint, wb, bt, opt, sq, sqL, sqi, tyOf, isTy, setp, sets, wsl, cturn, fl, cl, List.map_cons, List.map_nil, List.length_cons, List.length_nil, List.nil_append, List.cons_append, List.append_nil, List.replicate, List.getElem?_cons_zero, List.getElem?_cons_succ, List.getElem?_nil, List.set_cons_zero, List.set_cons_succ, List.set_nil, Nat.zero_add, Nat.reduceAdd, Nat.reduceSub, Nat.sub_self, Nat.reduceLT, Nat.lt_add_one, Nat.zero_lt_succ, true_and, and_true, if_true, if_false, Bool.true_eq, Bool.false_eq_true, reduceIte, isNon, List.all_cons, List.all_nil, List.any_cons, List.any_nil, Bool.and_true, Bool.true_and, Bool.or_false, Bool.false_or, Bool.and_false, Bool.false_and, Bool.or_true, Bool.true_or, Bool.not_true, Bool.not_false, Bool.xor_false, Bool.false_xor, Bool.true_xor, Bool.xor_true, List.isEmpty_nil, List.isEmpty_cons, clr, atI_0, atI_1, atI_2, atI_n1, asBls, asInts, dEq_int, dOk_int, dDep_int, Nat.min_self, decide_eq_true_eq, Nat.zero_le, Nat.not_lt_zero, List.cons.injEq, exists_eq_left', exists_and_left, Option.map_some, id_eq, decide_true, decide_false, Bool.not_eq_true, ne_eq, not_true_eq_false, not_false_eq_true, F.f32]
  have a1 : atI (l.map pD) (k : Int) = some (pD p) := by rw [PV.atI_nat, List.getElem?_map, hp]; rfl
  refine ⟨by decide, sm0 (l.take (k + 1)), 1 / 2, by rw [← rD_half], ⟨szz _ tk tl, sz_half⟩, ?_⟩
  by_cases c1 : sm0 (l.take (k + 1)) < 1 / 2
  · rw [decide_eq_true c1]
    have := hk (.val (rD (sm0 (l.take (k + 1))))) (.val (rD (sm0 (l.drop k))))
    rw [if_neg (fun z => z.1 c1)] at this
    exact this
  · rw [decide_eq_false c1]
    refine ⟨by decide, sm0 (l.drop k), 1 / 2, by rw [← rD_half], ⟨szz _ dk dl, sz_half⟩, ?_⟩
    by_cases c2 : sm0 (l.drop k) < 1 / 2
    · rw [decide_eq_true c2]
      have := hk (.val (rD (sm0 (l.take (k + 1))))) (.val (rD (sm0 (l.drop k))))
      rw [if_neg (fun z => z.2 c2)] at this
      exact this
    · rw [decide_eq_false c2]
      have := hk (.val (rD (sm0 (l.take (k + 1))))) (.val (rD (sm0 (l.drop k))))
      rw [if_pos ⟨c1, c2⟩, List.map_append] at this
      simp only [ws, wx, wl, wi, opd, prt, tst, val, ownv, startR, w1, w2, wII, wint, wb, bt, opt, sq, sqL, sqi, tyOf, isTy, setp, sets, wsl, cturn, fl, cl, List.map_cons, List.map_nil, List.length_cons, List.length_nil, List.nil_append, List.cons_append, List.append_nil, List.replicate, List.getElem?_cons_zero, List.getElem?_cons_succ, List.getElem?_nil, List.set_cons_zero, List.set_cons_succ, List.set_nil, Nat.zero_add, Nat.reduceAdd, Nat.reduceSub, Nat.sub_self, Nat.reduceLT, Nat.lt_add_one, Nat.zero_lt_succ, true_and, and_true, if_true, if_false, Bool.true_eq, Bool.false_eq_true, reduceIte, isNon, List.all_cons, List.all_nil, List.any_cons, List.any_nil, Bool.and_true, Bool.true_and, Bool.or_false, Bool.false_or, Bool.and_false, Bool.false_and, Bool.or_true, Bool.true_or, Bool.not_true, Bool.not_false, Bool.xor_false, Bool.false_xor, Bool.true_xor, Bool.xor_true, List.isEmpty_nil, List.isEmpty_cons, clr, atI_0, atI_1, atI_2, atI_n1, asBls, asInts, dEq_int, dOk_int, dDep_int, Nat.min_self, decide_eq_true_eq, Nat.zero_le, Nat.not_lt_zero, List.cons.injEq, exists_eq_left', exists_and_left, Option.map_some, id_eq, decide_true, decide_false, Bool.not_eq_true, ne_eq, not_true_eq_false, not_false_eq_true, a1, pD]
      exact ⟨by rw [List.length_map]; unfold line; omega, this⟩
def IMid (l : List (Rat × Rat)) (M0 : Ms) (mk : Sl → Sl → Sl → Sl → Ro) (ds : List D) (r : Ro) (M : Ms) : Prop := M = M0 ∧ ∃ (k : Nat) (fnd : List Rat) (s8 s22 s23 : Sl), k ≤ l.length ∧ ds = rngD (k : Int) (l.length - k) ∧ fnd ++ midsFrom (sm0 (l.take k)) (l.drop k) = mids l ∧ r = mk (.own (fnd.map rD)) s8 s22 s23
theorem t27 (F : MF m) (f36 : m.fn 36 = spSq) {n N S : Nat} {l : List (Rat × Rat)} (t : TF l N S) (hn : n < 2 ^ 27) (hd : Dr n M)
    (hk : ∀ (s : List Sl) M', s.length = 26 → Dr (n + 8) M' → K.nx (a0 :: .val (.tok 2) :: s) M') : ws m T_law_27 E [a0, .val (.tok 2), a2, .val (numD l), .val (rD (meanOf l)), .val (.lst ((offOf l (meanOf l)).map pD)), .val (rD (varOf l)), .own [], a8, a9, a10, a11, a12, a13, a14, a15, a16, a17, a18, a19, a20, a21, a22, a23, a24, a25, a26, a27] M K := by
  have l8 := t.vn.len8
  simp only [T_law_27, ws, wx, wl, wi, opd, prt, tst, val, ownv, startR, w1, w2, wII, wint, wb, bt, opt, sq, sqL, sqi, tyOf, isTy, setp, sets, wsl, cturn, fl, cl, List.map_cons, List.map_nil, List.length_cons, List.length_nil, List.nil_append, List.cons_append, List.append_nil, List.replicate, List.getElem?_cons_zero, List.getElem?_cons_succ, List.getElem?_nil, List.set_cons_zero, List.set_cons_succ, List.set_nil, Nat.zero_add, Nat.reduceAdd, Nat.reduceSub, Nat.sub_self, Nat.reduceLT, Nat.lt_add_one, Nat.zero_lt_succ, true_and, and_true, if_true, if_false, Bool.true_eq, Bool.false_eq_true, reduceIte, isNon, List.all_cons, List.all_nil, List.any_cons, List.any_nil, Bool.and_true, Bool.true_and, Bool.or_false, Bool.false_or, Bool.and_false, Bool.false_and, Bool.or_true, Bool.true_or, Bool.not_true, Bool.not_false, Bool.xor_false, Bool.false_xor, Bool.true_xor, Bool.xor_true, List.isEmpty_nil, List.isEmpty_cons, clr, atI_0, atI_1, atI_2, atI_n1, asBls, asInts, dEq_int, dOk_int, dDep_int, Nat.min_self, decide_eq_true_eq, Nat.zero_le, Nat.not_lt_zero, List.cons.injEq, exists_eq_left', exists_and_left, Option.map_some, id_eq, decide_true, decide_false, Bool.not_eq_true, ne_eq, not_true_eq_false, not_false_eq_true]
  refine ⟨by rw [List.length_map]; unfold line; omega, by rw [List.length_map]; unfold line; omega, ?_⟩
  rw [List.length_map, Int.toNat_natCast]
  refine for_inv (m := m) (t := .nm 8) (b := B_law_2) (E := E) (IMid l M fun s7 s8 s22 s23 => [a0, .val (.tok 2), a2, .val (numD l), .val (rD (meanOf l)), .val (.lst ((offOf l (meanOf l)).map pD)), .val (rD (varOf l)), s7, s8, a9, a10, a11, a12, a13, a14, a15, a16, a17, a18, a19, a20, a21, s22, s23, a24, a25, a26, a27]) ⟨rfl, 0, [], _, _, _, by omega, rfl, rfl, rfl⟩ ?_ ?_
  · rintro d rest r M' ⟨rfl, k, fnd, s8, s22, s23, hkl, hds, hm, rfl⟩
    have hlt : k < l.length := by
      by_cases h : k < l.length
      · exact h
      · have e : l.length - k = 0 := by omega
        rw [e] at hds
        cases hds
    obtain ⟨j, hj⟩ : ∃ j, l.length - k = j + 1 := ⟨l.length - k - 1, by omega⟩
    rw [hj] at hds
    have hds : d :: rest = .int (k : Int) :: rngD ((k : Int) + 1) j := hds
    injection hds with h1 h2
    subst h1 h2
    have hp : l[k]? = some l[k] := List.getElem?_eq_getElem hlt
    have hfl : fnd.length ≤ 8 := by
      have h1 := congrArg List.length hm
      rw [List.length_append] at h1
      have h2 : (mids l).length ≤ l.length := mids_len
      omega
    have es : sm0 (l.take (k + 1)) = sm0 (l.take k) + (l[k]).2 := by
      rw [take_snoc hp, sm0_app, sm0_cons]
      simp [sm0]
      grind
    have ed : sm0 (l.take k) + sm0 (l.drop k) = 1 := by rw [← sm0_app, List.take_append_drop]; exact t.vn.one
    refine ⟨by show 8 < 28; decide, b2 F t hp hfl fun s22 s23 => ?_⟩
    refine ⟨rfl, k + 1, _, _, _, _, hlt, ?_, ?_, rfl⟩
    · have : l.length - (k + 1) = j := by omega
      rw [this]; rfl
    · rw [drop_cons hp] at hm
      rw [← hm]
      have em : midsFrom (sm0 (l.take k)) (l[k] :: l.drop (k + 1)) = if ¬ sm0 (l.take k) + (l[k]).2 < 1 / 2 ∧ ¬ 1 - sm0 (l.take k) < 1 / 2 then (l[k]).1 :: midsFrom (sm0 (l.take k) + (l[k]).2) (l.drop (k + 1)) else midsFrom (sm0 (l.take k) + (l[k]).2) (l.drop (k + 1)) := rfl
      rw [em, es]
      have e3 : 1 - sm0 (l.take k) = sm0 (l.drop k) := by grind
      rw [e3]
      split <;> simp
  · rintro r M' ⟨rfl, k, fnd, s8, s22, s23, hkl, hds, hm, rfl⟩
    have e : k = l.length := by
      by_cases h : k < l.length
      · obtain ⟨j, hj⟩ : ∃ j, l.length - k = j + 1 := ⟨l.length - k - 1, by omega⟩
        rw [hj] at hds
        cases hds
      · omega
    subst e
    rw [List.drop_length] at hm
    have hm : fnd ++ [] = mids l := hm
    rw [List.append_nil] at hm
    subst hm
    exact t26 F f36 t hn hd hk
end
end K75

set_option Elab.async false
set_option linter.all false
set_option maxRecDepth 100000
set_option maxHeartbeats 4000000
set_option exponentiation.threshold 100000
/-! the turn's head, the law -/
namespace K75
open PySem PySem.Spec PyProof.Rows L2 PV
section
variable {m : Sm} {M : Ms} {E : Ex} {K : Kn} {a0 a1 a2 a3 a4 a5 a6 a7 a8 a9 a10 a11 a12 a13 a14 a15 a16 a17 a18 a19 a20 a21 a22 a23 a24 a25 a26 a27 : Sl}
theorem t28 (F : MF m) (f36 : m.fn 36 = spSq) {n N S : Nat} {l : List (Rat × Rat)} (t : TF l N S) (hn : n < 2 ^ 27) (hd : Dr n M)
    (hk : ∀ (s : List Sl) M', s.length = 26 → Dr (n + 8) M' → K.nx (a0 :: .val (.tok 2) :: s) M') : ws m T_law_28 E [a0, .val (.tok 2), a2, .val (numD l), .val (rD (meanOf l)), .val (.lst ((offOf l (meanOf l)).map pD)), .val (rD (varOf l)), a7, a8, a9, a10, a11, a12, a13, a14, a15, a16, a17, a18, a19, a20, a21, a22, a23, a24, a25, a26, a27] M K := by
  simp only [T_law_28, ws, wx, wl, wi, opd, prt, tst, val, ownv, startR, w1, w2, wII, wint, wb, bt, opt, sq, sqL, sqi, tyOf, isTy, setp, sets, wsl, cturn, fl, cl, List.map_cons, List.map_nil, List.length_cons, List.length_nil, List.nil_append, List.cons_append, List.append_nil, List.replicate, List.getElem?_cons_zero, List.getElem?_cons_succ, List.getElem?_nil, List.set_cons_zero, List.set_cons_succ, List.set_nil, Nat.zero_add, Nat.reduceAdd, Nat.reduceSub, Nat.sub_self, Nat.reduceLT, Nat.lt_add_one, Nat.zero_lt_succ, true_and, and_true, if_true, if_false, Bool.true_eq, Bool.false_eq_true, reduceIte, isNon, List.all_cons, List.all_nil, List.any_cons, List.any_nil, Bool.and_true, Bool.true_and, Bool.or_false, Bool.false_or, Bool.and_false, Bool.false_and, Bool.or_true, Bool.true_or, Bool.not_true, Bool.not_false, Bool.xor_false, Bool.false_xor, Bool.true_xor, Bool.xor_true, List.isEmpty_nil, List.isEmpty_cons, clr, atI_0, atI_1, atI_2, atI_n1, asBls, asInts, dEq_int, dOk_int, dDep_int, Nat.min_self, decide_eq_true_eq, Nat.zero_le, Nat.not_lt_zero, List.cons.injEq, exists_eq_left', exists_and_left, Option.map_some, id_eq, decide_true, decide_false, Bool.not_eq_true, ne_eq, not_true_eq_false, not_false_eq_true]
  exact t27 F f36 t hn hd hk
theorem t29 (F : MF m) (f36 : m.fn 36 = spSq) {n N S : Nat} {l : List (Rat × Rat)} (t : TF l N S) (hn : n < 2 ^ 27) (hd : Dr n M)
    (hk : ∀ (s : List Sl) M', s.length = 26 → Dr (n + 8) M' → K.nx (a0 :: .val (.tok 2) :: s) M') : ws m T_law_29 E [a0, .val (.tok 2), a2, .val (numD l), .val (rD (meanOf l)), .val (.lst ((offOf l (meanOf l)).map pD)), .val (rD (varOf l)), a7, a8, a9, a10, a11, a12, a13, a14, a15, a16, a17, a18, a19, a20, a21, a22, a23, a24, a25, a26, a27] M K := by
  have mean : ∀ {Q : D → Ms → Prop} {E : Ex}, Q (.tup [rD (meanOf l), rD (varOf l)]) M → spMean.run [numD l] M Q E := fun {Q E} h => ⟨numD l, rfl, ⟨pl_num (by have := t.vn.len8; omega), sm_num (k := 100) (by decide) fun p hp => ⟨(t.szp p hp).mono (by decide), (t.szc p hp).mono (by decide)⟩, fun l' e _ => by rw [← numD_inj e]; exact t.nz⟩, fun l' e _ => by rw [← numD_inj e]; exact h, fun h => absurd ⟨_, rfl, t.vn⟩ h⟩
  simp only [T_law_29, ws, wx, wl, wi, opd, prt, tst, val, ownv, startR, w1, w2, wII, wint, wb, bt, opt, sq, sqL, sqi, tyOf, isTy, setp, sets, wsl, cturn, fl, cl, List.map_cons, List.map_nil, List.length_cons, List.length_nil, List.nil_append, List.cons_append, List.append_nil, List.replicate, List.getElem?_cons_zero, List.getElem?_cons_succ, List.getElem?_nil, List.set_cons_zero, List.set_cons_succ, List.set_nil, Nat.zero_add, Nat.reduceAdd, Nat.reduceSub, Nat.sub_self, Nat.reduceLT, Nat.lt_add_one, Nat.zero_lt_succ, true_and, and_true, if_true, if_false, Bool.true_eq, Bool.false_eq_true, reduceIte, isNon, List.all_cons, List.all_nil, List.any_cons, List.any_nil, Bool.and_true, Bool.true_and, Bool.or_false, Bool.false_or, Bool.and_false, Bool.false_and, Bool.or_true, Bool.true_or, Bool.not_true, Bool.not_false, Bool.xor_false, Bool.false_xor, Bool.true_xor, Bool.xor_true, List.isEmpty_nil, List.isEmpty_cons, clr, atI_0, atI_1, atI_2, atI_n1, asBls, asInts, dEq_int, dOk_int, dDep_int, Nat.min_self, decide_eq_true_eq, Nat.zero_le, Nat.not_lt_zero, List.cons.injEq, exists_eq_left', exists_and_left, Option.map_some, id_eq, decide_true, decide_false, Bool.not_eq_true, ne_eq, not_true_eq_false, not_false_eq_true, F.f13, F.f26]
  refine mean (mean ⟨by decide, by decide, by decide, by decide, by decide, by decide, _, rfl, ⟨rfl, by show 15 ≤ 1000000; decide⟩, ?_⟩)
  exact t28 F f36 t hn hd hk
theorem t30 (F : MF m) (f36 : m.fn 36 = spSq) {n N S : Nat} {l : List (Rat × Rat)} (t : TF l N S) (hn : n < 2 ^ 27) (hd : Dr n M)
    (hk : ∀ (s : List Sl) M', s.length = 26 → Dr (n + 8) M' → K.nx (a0 :: .val (.tok 2) :: s) M') : ws m T_law_30 E [a0, .val (.tok 2), a2, .val (numD l), .val (rD (meanOf l)), .val (.lst ((offOf l (meanOf l)).map pD)), a6, a7, a8, a9, a10, a11, a12, a13, a14, a15, a16, a17, a18, a19, a20, a21, a22, a23, a24, a25, a26, a27] M K := by
  have l8 := t.vn.len8
  have lo : (offOf l (meanOf l)).length = l.length := List.length_map ..
  simp only [T_law_30, ws, wx, wl, wi, opd, prt, tst, val, ownv, startR, w1, w2, wII, wint, wb, bt, opt, sq, sqL, sqi, tyOf, isTy, setp, sets, wsl, cturn, fl, cl, List.map_cons, List.map_nil, List.length_cons, List.length_nil, List.nil_append, List.cons_append, List.append_nil, List.replicate, List.getElem?_cons_zero, List.getElem?_cons_succ, List.getElem?_nil, List.set_cons_zero, List.set_cons_succ, List.set_nil, Nat.zero_add, Nat.reduceAdd, Nat.reduceSub, Nat.sub_self, Nat.reduceLT, Nat.lt_add_one, Nat.zero_lt_succ, true_and, and_true, if_true, if_false, Bool.true_eq, Bool.false_eq_true, reduceIte, isNon, List.all_cons, List.all_nil, List.any_cons, List.any_nil, Bool.and_true, Bool.true_and, Bool.or_false, Bool.false_or, Bool.and_false, Bool.false_and, Bool.or_true, Bool.true_or, Bool.not_true, Bool.not_false, Bool.xor_false, Bool.false_xor, Bool.true_xor, Bool.xor_true, List.isEmpty_nil, List.isEmpty_cons, clr, atI_0, atI_1, atI_2, atI_n1, asBls, asInts, dEq_int, dOk_int, dDep_int, Nat.min_self, decide_eq_true_eq, Nat.zero_le, Nat.not_lt_zero, List.cons.injEq, exists_eq_left', exists_and_left, Option.map_some, id_eq, decide_true, decide_false, Bool.not_eq_true, ne_eq, not_true_eq_false, not_false_eq_true, F.f33]
  refine ⟨by rw [List.length_map]; unfold line; omega, cl_map _ (fun p => some (rD (p.1 * p.1 * p.2))) (fun p hp K' hK' => ?_) ?_⟩
  · obtain ⟨q, hq, rfl⟩ := List.mem_map.mp hp
    have z1 := t.szo q hq
    simp only [ws, wx, wl, wi, opd, prt, tst, val, ownv, startR, w1, w2, wII, wint, wb, bt, opt, sq, sqL, sqi, tyOf, isTy, setp, sets, wsl, cturn, fl, cl, List.map_cons, List.map_nil, List.length_cons, List.length_nil, List.nil_append, List.cons_append, List.append_nil, List.replicate, List.getElem?_cons_zero, List.getElem?_cons_succ, List.getElem?_nil, List.set_cons_zero, List.set_cons_succ, List.set_nil, Nat.zero_add, Nat.reduceAdd, Nat.reduceSub, Nat.sub_self, Nat.reduceLT, Nat.lt_add_one, Nat.zero_lt_succ, true_and, and_true, if_true, if_false, Bool.true_eq, Bool.false_eq_true, reduceIte, isNon, List.all_cons, List.all_nil, List.any_cons, List.any_nil, Bool.and_true, Bool.true_and, Bool.or_false, Bool.false_or, Bool.and_false, Bool.false_and, Bool.or_true, Bool.true_or, Bool.not_true, Bool.not_false, Bool.xor_false, Bool.false_xor, Bool.true_xor, Bool.xor_true, List.isEmpty_nil, List.isEmpty_cons, clr, atI_0, atI_1, atI_2, atI_n1, asBls, asInts, dEq_int, dOk_int, dDep_int, Nat.min_self, decide_eq_true_eq, Nat.zero_le, Nat.not_lt_zero, List.cons.injEq, exists_eq_left', exists_and_left, Option.map_some, id_eq, decide_true, decide_false, Bool.not_eq_true, ne_eq, not_true_eq_false, not_false_eq_true, pD, F.f30, f36]
    exact ⟨by simp, q.1 - meanOf l, rfl, z1.mono (by decide), _, q.2, rfl, ⟨(z1.mul z1).mono (by decide), (t.szc q hq).mono (by decide), trivial⟩, hK'⟩
  · rw [fm_some, List.nil_append]
    have e : (offOf l (meanOf l)).map (fun p => rD (p.1 * p.1 * p.2)) = (l.map fun p => (p.1 - meanOf l) * (p.1 - meanOf l) * p.2).map rD := by
      unfold offOf
      rw [List.map_map, List.map_map]; rfl
    rw [e]
    refine ⟨_, _, _, rfl, ⟨t.q1.1, Nat.lt_trans t.q1.2 (by decide +kernel), big4 (by rw [List.length_map]; exact l8) (le3000 t.q2 (by decide)), fun q hq => ?_⟩, ?_⟩
    · obtain ⟨p, hp, rfl⟩ := List.mem_map.mp hq
      exact t.frq p hp
    · exact t29 F f36 t hn hd hk
theorem t31 (F : MF m) (f36 : m.fn 36 = spSq) {n N S : Nat} {l : List (Rat × Rat)} (t : TF l N S) (hn : n < 2 ^ 27) (hd : Dr n M)
    (hk : ∀ (s : List Sl) M', s.length = 26 → Dr (n + 8) M' → K.nx (a0 :: .val (.tok 2) :: s) M') : ws m T_law_31 E [a0, .val (.tok 2), a2, .val (numD l), .val (rD (meanOf l)), a5, a6, a7, a8, a9, a10, a11, a12, a13, a14, a15, a16, a17, a18, a19, a20, a21, a22, a23, a24, a25, a26, a27] M K := by
  have l8 := t.vn.len8
  simp only [T_law_31, ws, wx, wl, wi, opd, prt, tst, val, ownv, startR, w1, w2, wII, wint, wb, bt, opt, sq, sqL, sqi, tyOf, isTy, setp, sets, wsl, cturn, fl, cl, List.map_cons, List.map_nil, List.length_cons, List.length_nil, List.nil_append, List.cons_append, List.append_nil, List.replicate, List.getElem?_cons_zero, List.getElem?_cons_succ, List.getElem?_nil, List.set_cons_zero, List.set_cons_succ, List.set_nil, Nat.zero_add, Nat.reduceAdd, Nat.reduceSub, Nat.sub_self, Nat.reduceLT, Nat.lt_add_one, Nat.zero_lt_succ, true_and, and_true, if_true, if_false, Bool.true_eq, Bool.false_eq_true, reduceIte, isNon, List.all_cons, List.all_nil, List.any_cons, List.any_nil, Bool.and_true, Bool.true_and, Bool.or_false, Bool.false_or, Bool.and_false, Bool.false_and, Bool.or_true, Bool.true_or, Bool.not_true, Bool.not_false, Bool.xor_false, Bool.false_xor, Bool.true_xor, Bool.xor_true, List.isEmpty_nil, List.isEmpty_cons, clr, atI_0, atI_1, atI_2, atI_n1, asBls, asInts, dEq_int, dOk_int, dDep_int, Nat.min_self, decide_eq_true_eq, Nat.zero_le, Nat.not_lt_zero, List.cons.injEq, exists_eq_left', exists_and_left, Option.map_some, id_eq, decide_true, decide_false, Bool.not_eq_true, ne_eq, not_true_eq_false, not_false_eq_true, F.f38]
  refine ⟨l, meanOf l, rfl, ⟨by omega, t.szm.mono (by decide), fun p hp => (t.szp p hp).mono (by decide)⟩, ?_⟩
  exact t30 F f36 t hn hd hk
theorem t32 (F : MF m) (f36 : m.fn 36 = spSq) {n N S : Nat} {l : List (Rat × Rat)} (t : TF l N S) (hn : n < 2 ^ 27) (hd : Dr n M)
    (hk : ∀ (s : List Sl) M', s.length = 26 → Dr (n + 8) M' → K.nx (a0 :: .val (.tok 2) :: s) M') : ws m T_law_32 E [a0, .val (.tok 2), a2, .val (numD l), a4, a5, a6, a7, a8, a9, a10, a11, a12, a13, a14, a15, a16, a17, a18, a19, a20, a21, a22, a23, a24, a25, a26, a27] M K := by
  have l8 := t.vn.len8
  simp only [T_law_32, ws, wx, wl, wi, opd, prt, tst, val, ownv, startR, w1, w2, wII, wint, wb, bt, opt, sq, sqL, sqi, tyOf, isTy, setp, sets, wsl, cturn, fl, cl, List.map_cons, List.map_nil, List.length_cons, List.length_nil, List.nil_append, List.cons_append, List.append_nil, List.replicate, List.getElem?_cons_zero, List.getElem?_cons_succ, List.getElem?_nil, List.set_cons_zero, List.set_cons_succ, List.set_nil, Nat.zero_add, Nat.reduceAdd, Nat.reduceSub, Nat.sub_self, Nat.reduceLT, Nat.lt_add_one, Nat.zero_lt_succ, true_and, and_true, if_true, if_false, Bool.true_eq, Bool.false_eq_true, reduceIte, isNon, List.all_cons, List.all_nil, List.any_cons, List.any_nil, Bool.and_true, Bool.true_and, Bool.or_false, Bool.false_or, Bool.and_false, Bool.false_and, Bool.or_true, Bool.true_or, Bool.not_true, Bool.not_false, Bool.xor_false, Bool.false_xor, Bool.true_xor, Bool.xor_true, List.isEmpty_nil, List.isEmpty_cons, clr, atI_0, atI_1, atI_2, atI_n1, asBls, asInts, dEq_int, dOk_int, dDep_int, Nat.min_self, decide_eq_true_eq, Nat.zero_le, Nat.not_lt_zero, List.cons.injEq, exists_eq_left', exists_and_left, Option.map_some, id_eq, decide_true, decide_false, Bool.not_eq_true, ne_eq, not_true_eq_false, not_false_eq_true, F.f33]
  refine ⟨by rw [List.length_map]; unfold line; omega, cl_map _ (fun p => some (rD (p.1 * p.2))) (fun p hp K' hK' => ?_) ?_⟩
  · simp only [ws, wx, wl, wi, opd, prt, tst, val, ownv, startR, w1, w2, wII, wint, wb, bt, opt, sq, sqL, sqi, tyOf, isTy, setp, sets, wsl, cturn, fl, cl, List.map_cons, List.map_nil, List.length_cons, List.length_nil, List.nil_append, List.cons_append, List.append_nil, List.replicate, List.getElem?_cons_zero, List.getElem?_cons_succ, List.getElem?_nil, List.set_cons_zero, List.set_cons_succ, List.set_nil, Nat.zero_add, Nat.reduceAdd, Nat.reduceSub, Nat.sub_self, Nat.reduceLT, Nat.lt_add_one, Nat.zero_lt_succ, true_and, and_true, if_true, if_false, Bool.true_eq, Bool.false_eq_true, reduceIte, isNon, List.all_cons, List.all_nil, List.any_cons, List.any_nil, Bool.and_true, Bool.true_and, Bool.or_false, Bool.false_or, Bool.and_false, Bool.false_and, Bool.or_true, Bool.true_or, Bool.not_true, Bool.not_false, Bool.xor_false, Bool.false_xor, Bool.true_xor, Bool.xor_true, List.isEmpty_nil, List.isEmpty_cons, clr, atI_0, atI_1, atI_2, atI_n1, asBls, asInts, dEq_int, dOk_int, dDep_int, Nat.min_self, decide_eq_true_eq, Nat.zero_le, Nat.not_lt_zero, List.cons.injEq, exists_eq_left', exists_and_left, Option.map_some, id_eq, decide_true, decide_false, Bool.not_eq_true, ne_eq, not_true_eq_false, not_false_eq_true, pD, F.f30]
    exact ⟨by simp, p.1, p.2, rfl, ⟨(t.szp p hp).mono (by decide), (t.szc p hp).mono (by decide), trivial⟩, hK'⟩
  · rw [fm_some, List.nil_append]
    have e : l.map (fun p => rD (p.1 * p.2)) = (l.map fun p => p.1 * p.2).map rD := by rw [List.map_map]; rfl
    rw [e]
    refine ⟨_, N * S, 10000 * S, rfl, ⟨t.ns.1, lt_pow (show N * S < 2 ^ 14 by have := t.ns.2; omega) (by decide), big4 (by rw [List.length_map]; exact l8) (le3000 (k := 22) (by have := t.S2; omega) (by decide)), fun q hq => ?_⟩, ?_⟩
    · obtain ⟨p, hp, rfl⟩ := List.mem_map.mp hq
      exact (t.fr p hp).1.mul (t.fr p hp).2
    · exact t31 F f36 t hn hd hk
theorem b33 (F : MF m) (f36 : m.fn 36 = spSq) {n : Nat} (hn : n < 2 ^ 26) (hd : Dr n M)
    (hk : ∀ (s : List Sl) M', s.length = 26 → Dr (n + 88) M' → K.nx (a0 :: .val (.tok 2) :: s) M') : ws m B_law_33 E [a0, .val (.tok 2), a2, a3, a4, a5, a6, a7, a8, a9, a10, a11, a12, a13, a14, a15, a16, a17, a18, a19, a20, a21, a22, a23, a24, a25, a26, a27] M K := by
  simp only [B_law_33, ws, wx, wl, wi, opd, prt, tst, val, ownv, startR, w1, w2, wII, wint, wb, bt, opt, sq, sqL, sqi, tyOf, isTy, setp, sets, wsl, cturn, fl, cl, List.map_cons, List.map_nil, List.length_cons, List.length_nil, List.nil_append, List.cons_append, List.append_nil, List.replicate, List.getElem?_cons_zero, List.getElem?_cons_succ, List.getElem?_nil, List.set_cons_zero, List.set_cons_succ, List.set_nil, Nat.zero_add, Nat.reduceAdd, Nat.reduceSub, Nat.sub_self, Nat.reduceLT, Nat.lt_add_one, Nat.zero_lt_succ, true_and, and_true, if_true, if_false, Bool.true_eq, Bool.false_eq_true, reduceIte, isNon, List.all_cons, List.all_nil, List.any_cons, List.any_nil, Bool.and_true, Bool.true_and, Bool.or_false, Bool.false_or, Bool.and_false, Bool.false_and, Bool.or_true, Bool.true_or, Bool.not_true, Bool.not_false, Bool.xor_false, Bool.false_xor, Bool.true_xor, Bool.xor_true, List.isEmpty_nil, List.isEmpty_cons, clr, atI_0, atI_1, atI_2, atI_n1, asBls, asInts, dEq_int, dOk_int, dDep_int, Nat.min_self, decide_eq_true_eq, Nat.zero_le, Nat.not_lt_zero, List.cons.injEq, exists_eq_left', exists_and_left, Option.map_some, id_eq, decide_true, decide_false, Bool.not_eq_true, ne_eq, not_true_eq_false, not_false_eq_true, F.f37]
  refine ⟨n, rfl, ⟨by omega, hd⟩, fun l M' hg hd' => ?_⟩
  obtain ⟨N, S, t⟩ := hg.tf
  exact t32 F f36 t (by omega) hd' fun s M2 h1 h2 => hk s M2 h1 ((show n + 80 + 8 = n + 88 by omega) ▸ h2)
end
theorem rngD_len : ∀ (n : Nat) (lo : Int), (rngD lo n).length = n
  | 0, _ => rfl
  | n + 1, lo => by
    show (rngD (lo + 1) n).length + 1 = n + 1
    rw [rngD_len n]
def ILw (x : Sl) (ds : List D) (r : Ro) (M : Ms) : Prop := ∃ (j : Nat) (s : List Sl), j + ds.length ≤ 10 ∧ s.length = 26 ∧ Dr (88 * j) M ∧ r = x :: .val (.tok 2) :: s
def spLaw : PV.Spec where
  run ds M Q E := ∃ (ns : List Int) (q : Str), ds = [.scr ns] ∧ (ns.length ≤ 1000 ∧ M = [.tab q]) ∧ ∀ M', Q (.bl true) M'
  mono := fun ⟨a, b, h1, h2, h3⟩ q _ => ⟨a, b, h1, h2, fun M' => q _ _ (h3 M')⟩
theorem p_law {m : Sm} {ds : List D} {M : Ms} {Q : D → Ms → Prop} {E : Ex} (F : MF m) (f36 : m.fn 36 = spSq) (h : spLaw.run ds M Q E) : ws m S_law E (startR N_law ds) M { nx := fun _ M' => Q .non M', rt := Q } := by
  obtain ⟨ns, q, rfl, ⟨hl, rfl⟩, hq⟩ := h
  simp only [S_law, N_law, ws, wx, wl, wi, opd, prt, tst, val, ownv, startR, w1, w2, wII, wint, wb, bt, opt, sq, sqL, sqi, tyOf, isTy, setp, sets, wsl, cturn, fl, cl, List.map_cons, List.map_nil, List.length_cons, List.length_nil, List.nil_append, List.cons_append, List.append_nil, List.replicate, List.getElem?_cons_zero, List.getElem?_cons_succ, List.getElem?_nil, List.set_cons_zero, List.set_cons_succ, List.set_nil, Nat.zero_add, Nat.reduceAdd, Nat.reduceSub, Nat.sub_self, Nat.reduceLT, Nat.lt_add_one, Nat.zero_lt_succ, true_and, and_true, if_true, if_false, Bool.true_eq, Bool.false_eq_true, reduceIte, isNon, List.all_cons, List.all_nil, List.any_cons, List.any_nil, Bool.and_true, Bool.true_and, Bool.or_false, Bool.false_or, Bool.and_false, Bool.false_and, Bool.or_true, Bool.true_or, Bool.not_true, Bool.not_false, Bool.xor_false, Bool.false_xor, Bool.true_xor, Bool.xor_true, List.isEmpty_nil, List.isEmpty_cons, clr, atI_0, atI_1, atI_2, atI_n1, asBls, asInts, dEq_int, dOk_int, dDep_int, Nat.min_self, decide_eq_true_eq, Nat.zero_le, Nat.not_lt_zero, List.cons.injEq, exists_eq_left', exists_and_left, Option.map_some, id_eq, decide_true, decide_false, Bool.not_eq_true, ne_eq, not_true_eq_false, not_false_eq_true, F.f20]
  refine ⟨ns, q, rfl, ⟨hl, rfl⟩, fun M' hd => ?_⟩
  simp only [T_law_35, ws, wx, wl, wi, opd, prt, tst, val, ownv, startR, w1, w2, wII, wint, wb, bt, opt, sq, sqL, sqi, tyOf, isTy, setp, sets, wsl, cturn, fl, cl, List.map_cons, List.map_nil, List.length_cons, List.length_nil, List.nil_append, List.cons_append, List.append_nil, List.replicate, List.getElem?_cons_zero, List.getElem?_cons_succ, List.getElem?_nil, List.set_cons_zero, List.set_cons_succ, List.set_nil, Nat.zero_add, Nat.reduceAdd, Nat.reduceSub, Nat.sub_self, Nat.reduceLT, Nat.lt_add_one, Nat.zero_lt_succ, true_and, and_true, if_true, if_false, Bool.true_eq, Bool.false_eq_true, reduceIte, isNon, List.all_cons, List.all_nil, List.any_cons, List.any_nil, Bool.and_true, Bool.true_and, Bool.or_false, Bool.false_or, Bool.and_false, Bool.false_and, Bool.or_true, Bool.true_or, Bool.not_true, Bool.not_false, Bool.xor_false, Bool.false_xor, Bool.true_xor, Bool.xor_true, List.isEmpty_nil, List.isEmpty_cons, clr, atI_0, atI_1, atI_2, atI_n1, asBls, asInts, dEq_int, dOk_int, dDep_int, Nat.min_self, decide_eq_true_eq, Nat.zero_le, Nat.not_lt_zero, List.cons.injEq, exists_eq_left', exists_and_left, Option.map_some, id_eq, decide_true, decide_false, Bool.not_eq_true, ne_eq, not_true_eq_false, not_false_eq_true]
  rw [List.length_map]
  have key : ∀ v : Int, v ≤ 6 → 0 ≤ v → (4 + v) ≤ line ∧ -line ≤ (4 + v) ∧ (4 + v).toNat ≤ 10 := fun v h1 h2 => by
    unfold line
    refine ⟨by omega, by omega, by omega⟩
  have hv : (if (6 : Int) < (ns.length : Int) then (6 : Int) else (ns.length : Int)) ≤ 6 ∧ 0 ≤ (if (6 : Int) < (ns.length : Int) then (6 : Int) else (ns.length : Int)) := by
    split <;> omega
  obtain ⟨k1, k2, k3⟩ := key _ hv.1 hv.2
  refine ⟨k1, k2, ?_⟩
  refine for_inv (m := m) (t := .nm 2) (b := B_law_33) (E := E) (ILw (.val (.scr ns))) ⟨0, _, by rw [rngD_len]; omega, by rfl, hd, rfl⟩ ?_ ?_
  · rintro d rest r M2 ⟨j, s, hj, hs, hd2, rfl⟩
    rw [List.length_cons] at hj
    match s, hs with
    | [a2, a3, a4, a5, a6, a7, a8, a9, a10, a11, a12, a13, a14, a15, a16, a17, a18, a19, a20, a21, a22, a23, a24, a25, a26, a27], _ =>
      refine ⟨by show 2 < 28; decide, b33 F f36 (n := 88 * j) (by omega) hd2 fun s' M3 h1 h2 => ?_⟩
      exact ⟨j + 1, s', by omega, h1, (show 88 * j + 88 = 88 * (j + 1) by omega) ▸ h2, rfl⟩
  · rintro r M2 ⟨j, s, hj, hs, hd2, rfl⟩
    simp only [T_law_34, ws, wx]
    exact hq M2
end K75

set_option Elab.async false
set_option linter.all false
set_option maxRecDepth 100000
set_option maxHeartbeats 4000000
/-! what stands behind the names; each def keeps its promise -/
namespace K75
open PySem PySem.Spec PyProof.Rows L2 PV
def nms : List Str := (["is_whole", "is_ratio", "is_chance", "lowest", "plus", "minus", "times", "over", "is_less", "total", "least_of", "are_numbers", "need_numbers", "mean_spread", "middles", "need_spread", "one_side", "spread_chance", "both_chance", "spread_numbers", "_law_begun"] : List Str) ++ (["_law_blended", "_law_draw", "_law_pick", "_law_caught", "_law_is_truth", "_law_same", "_law_q", "_law_plus", "_law_minus", "_law_times", "_law_over", "_law_less", "_law_sum", "_law_number", "_law_le_marks", "_law_le_square", "_law_le_numbers", "_law_k75_off", "_law_k75_kind", "law"] : List Str)
def exs : List Str := ["BoundError", "BadNumbers", "BadSpread", "BadGap"]
def gOf (K : PySem.W.Frag) (T : Addr) : GC where
  K := K
  fa := fun j => He.ga K (nms.getD j "law")
  ec := fun k => He.ga K (exs.getD k "BoundError")
  en := fun _ => []
  hx := fun k a d => ExW (.ref (He.ga K (exs.getD k "BoundError"))) a d
  tb := T
  tq := "law.<locals>.<lambda>"
def spS : List PV.Spec := [spB isWh, spB isRat, spB isCh, spLow, spR2 (fun a b => a + b) fun _ _ => True, spR2 (fun a b => a - b) fun _ _ => True, spR2 (fun a b => a * b) fun _ _ => True, spR2 (fun a b => a / b) fun _ b => b.num ≠ 0, spLess, spSum, spLeast, spNumB, spNeed, spMean, spMid, spNeedS, spSide,
  spOn fun v g => rD (one1 v g), spOn fun v g => rD (both1 v g), spOn fun v g => numD (toldOf v g), spBegun, spBlend, spDraw, spPick] ++ [spNo, spNo, spSame, spLow, spR2 (fun a b => a + b) fun _ _ => True, spR2 (fun a b => a - b) fun _ _ => True, spR2 (fun a b => a * b) fun _ _ => True, spR2 (fun a b => a / b) fun _ b => b.num ≠ 0, spLess, spSum, spNumber, spMarks, spSq, spNums, spOff, spKind, spLaw]
def mS : Sm where
  fn := fun j => spS.getD j spNo
  glo := fun k => [rD 0, rD 1, .int 8, rD (1 / 2)].getD k .non
  sub := fun k j => decide (j = 0) || decide (k = j)
  kept := fun _ => false
  ncl := 4
  held := fun j => if j = 13 ∨ j = 14 then some 1 else if j = 17 ∨ j = 18 ∨ j = 19 then some 2 else none
def dOf (nm : Str) (st : Stmt) : He.DefD := ⟨(nm, none), nm, nm, defArgs st, defBody st, defScope st, [], []⟩
def dl : List He.DefD := ([dOf "is_whole" st_is_whole, dOf "is_ratio" st_is_ratio, dOf "is_chance" st_is_chance, dOf "lowest" st_lowest, dOf "plus" st_plus, dOf "minus" st_minus, dOf "times" st_times, dOf "over" st_over, dOf "is_less" st_is_less, dOf "total" st_total, dOf "least_of" st_least_of, dOf "are_numbers" st_are_numbers, dOf "need_numbers" st_need_numbers, dOf "mean_spread" st_mean_spread, dOf "middles" st_middles, dOf "need_spread" st_need_spread, dOf "one_side" st_one_side, dOf "spread_chance" st_spread_chance, dOf "both_chance" st_both_chance, dOf "spread_numbers" st_spread_numbers, dOf "_law_begun" st__law_begun] : List He.DefD) ++ ([dOf "_law_blended" st__law_blended, dOf "_law_draw" st__law_draw, dOf "_law_pick" st__law_pick, dOf "_law_caught" st__law_caught, dOf "_law_is_truth" st__law_is_truth, dOf "_law_same" st__law_same, dOf "_law_q" st__law_q, dOf "_law_plus" st__law_plus, dOf "_law_minus" st__law_minus, dOf "_law_times" st__law_times, dOf "_law_over" st__law_over, dOf "_law_less" st__law_less, dOf "_law_sum" st__law_sum, dOf "_law_number" st__law_number, dOf "_law_le_marks" st__law_le_marks, dOf "_law_le_square" st__law_le_square, dOf "_law_le_numbers" st__law_le_numbers, dOf "_law_k75_off" st__law_k75_off, dOf "_law_k75_kind" st__law_k75_kind, dOf "law" st_law] : List He.DefD)
/-- the facts of the head -/
structure Hd (K : PySem.W.Frag) (T : Addr) (mg : Str → Option Value) : Prop where
  B : Blt mg
  gcd : mg "gcd" = some (.builtin "math.gcd")
  glo : ∀ (i : Nat), i < 41 → mg (nms.getD i "law") = some (.ref (He.ga K (nms.getD i "law")))
  def_ : ∀ (i : Nat) {d : He.DefD}, dl[i]? = some d → ∃ fd, FunD K d.name d.qual d.params d.body d.scope (d.dvs K) (d.kws K) (He.fAd K d.at_) fd
  ex : ∀ (k : Nat), k < 4 → ExF (gOf K T) mg k (exs.getD k "BoundError")
  isi : IsiF (gOf K T) mS
  exm : ∀ (k : Nat), k < 4 → PySem.W.exmOne K (.ref (He.ga K (exs.getD k "BoundError"))) (.ref (He.ga K (exs.getD 0 "BoundError"))) = some true
  g_ZERO : GloF (gOf K T) mS mg 0 "ZERO"
  g_ONE : GloF (gOf K T) mS mg 1 "ONE"
  g_MOST_NUMBERS : GloF (gOf K T) mS mg 2 "MOST_NUMBERS"
  g_HALF : GloF (gOf K T) mS mg 3 "HALF"
theorem mf : MF mS := ⟨rfl, rfl, rfl, rfl, rfl, rfl, rfl, rfl, rfl, rfl, rfl, rfl, rfl, rfl, rfl, rfl, rfl, rfl, rfl, ⟨rfl, rfl, rfl, rfl, rfl⟩, fun _ _ => rfl⟩
section
variable {K : PySem.W.Frag} {T : Addr} {mg : Str → Option Value} {P : Program} {w : World} {base : Heap}
theorem F_is_whole (H : Hd K T mg) : Fct (gOf K T) mS P w mg base 1 0 "is_whole" st_is_whole ps_is_whole := by
  obtain ⟨fd, FD⟩ := H.def_ 0 (d := dOf "is_whole" st_is_whole) rfl
  exact fct_of (g := gOf K T) (j := 0) FD (H.glo 0 (by decide)) ⟨rfl, rfl, rfl, by decide +kernel, rfl, by decide +kernel, by decide +kernel⟩ (fun _ _ _ _ _ _ us hl => match us, hl with | [_], _ => rfl)
    (fun C => w_is_whole H.B C) fun ds M Q E _ h => p_is_whole h
theorem F_is_ratio (H : Hd K T mg) : Fct (gOf K T) mS P w mg base 2 1 "is_ratio" st_is_ratio ps_is_ratio := by
  obtain ⟨fd, FD⟩ := H.def_ 1 (d := dOf "is_ratio" st_is_ratio) rfl
  exact fct_of (g := gOf K T) (j := 1) FD (H.glo 1 (by decide)) ⟨rfl, rfl, rfl, by decide +kernel, rfl, by decide +kernel, by decide +kernel⟩ (fun _ _ _ _ _ _ us hl => match us, hl with | [_], _ => rfl)
    (fun C => w_is_ratio H.B H.gcd (F_is_whole H) C) fun ds M Q E _ h => p_is_ratio rfl h
theorem F_is_chance (H : Hd K T mg) : Fct (gOf K T) mS P w mg base 3 2 "is_chance" st_is_chance ps_is_chance := by
  obtain ⟨fd, FD⟩ := H.def_ 2 (d := dOf "is_chance" st_is_chance) rfl
  exact fct_of (g := gOf K T) (j := 2) FD (H.glo 2 (by decide)) ⟨rfl, rfl, rfl, by decide +kernel, rfl, by decide +kernel, by decide +kernel⟩ (fun _ _ _ _ _ _ us hl => match us, hl with | [_], _ => rfl)
    (fun C => w_is_chance (F_is_ratio H) C) fun ds M Q E _ h => p_is_chance rfl h
theorem F_lowest (H : Hd K T mg) : Fct (gOf K T) mS P w mg base 1 3 "lowest" st_lowest ps_lowest := by
  obtain ⟨fd, FD⟩ := H.def_ 3 (d := dOf "lowest" st_lowest) rfl
  exact fct_of (g := gOf K T) (j := 3) FD (H.glo 3 (by decide)) ⟨rfl, rfl, rfl, by decide +kernel, rfl, by decide +kernel, by decide +kernel⟩ (fun _ _ _ _ _ _ us hl => match us, hl with | [_, _], _ => rfl)
    (fun C => w_lowest H.gcd C) fun ds M Q E _ h => p_lowest h
theorem F_plus (H : Hd K T mg) : Fct (gOf K T) mS P w mg base 2 4 "plus" st_plus ps_plus := by
  obtain ⟨fd, FD⟩ := H.def_ 4 (d := dOf "plus" st_plus) rfl
  exact fct_of (g := gOf K T) (j := 4) FD (H.glo 4 (by decide)) ⟨rfl, rfl, rfl, by decide +kernel, rfl, by decide +kernel, by decide +kernel⟩ (fun _ _ _ _ _ _ us hl => match us, hl with | [_, _], _ => rfl)
    (fun C => w_plus (F_lowest H) C) fun ds M Q E _ h => p_plus rfl h
theorem F_minus (H : Hd K T mg) : Fct (gOf K T) mS P w mg base 2 5 "minus" st_minus ps_minus := by
  obtain ⟨fd, FD⟩ := H.def_ 5 (d := dOf "minus" st_minus) rfl
  exact fct_of (g := gOf K T) (j := 5) FD (H.glo 5 (by decide)) ⟨rfl, rfl, rfl, by decide +kernel, rfl, by decide +kernel, by decide +kernel⟩ (fun _ _ _ _ _ _ us hl => match us, hl with | [_, _], _ => rfl)
    (fun C => w_minus (F_lowest H) C) fun ds M Q E _ h => p_minus rfl h
theorem F_times (H : Hd K T mg) : Fct (gOf K T) mS P w mg base 2 6 "times" st_times ps_times := by
  obtain ⟨fd, FD⟩ := H.def_ 6 (d := dOf "times" st_times) rfl
  exact fct_of (g := gOf K T) (j := 6) FD (H.glo 6 (by decide)) ⟨rfl, rfl, rfl, by decide +kernel, rfl, by decide +kernel, by decide +kernel⟩ (fun _ _ _ _ _ _ us hl => match us, hl with | [_, _], _ => rfl)
    (fun C => w_times (F_lowest H) C) fun ds M Q E _ h => p_times rfl h
theorem F_over (H : Hd K T mg) : Fct (gOf K T) mS P w mg base 2 7 "over" st_over ps_over := by
  obtain ⟨fd, FD⟩ := H.def_ 7 (d := dOf "over" st_over) rfl
  exact fct_of (g := gOf K T) (j := 7) FD (H.glo 7 (by decide)) ⟨rfl, rfl, rfl, by decide +kernel, rfl, by decide +kernel, by decide +kernel⟩ (fun _ _ _ _ _ _ us hl => match us, hl with | [_, _], _ => rfl)
    (fun C => w_over (F_lowest H) C) fun ds M Q E _ h => p_over rfl h
theorem F_is_less (H : Hd K T mg) : Fct (gOf K T) mS P w mg base 1 8 "is_less" st_is_less ps_is_less := by
  obtain ⟨fd, FD⟩ := H.def_ 8 (d := dOf "is_less" st_is_less) rfl
  exact fct_of (g := gOf K T) (j := 8) FD (H.glo 8 (by decide)) ⟨rfl, rfl, rfl, by decide +kernel, rfl, by decide +kernel, by decide +kernel⟩ (fun _ _ _ _ _ _ us hl => match us, hl with | [_, _], _ => rfl)
    (fun C => w_is_less  C) fun ds M Q E _ h => p_is_less h
theorem F_total (H : Hd K T mg) : Fct (gOf K T) mS P w mg base 3 9 "total" st_total ps_total := by
  obtain ⟨fd, FD⟩ := H.def_ 9 (d := dOf "total" st_total) rfl
  exact fct_of (g := gOf K T) (j := 9) FD (H.glo 9 (by decide)) ⟨rfl, rfl, rfl, by decide +kernel, rfl, by decide +kernel, by decide +kernel⟩ (fun _ _ _ _ _ _ us hl => match us, hl with | [_], _ => rfl)
    (fun C => w_total (F_plus H) H.g_ZERO C) fun ds M Q E _ h => p_total rfl rfl h
theorem F_least_of (H : Hd K T mg) : Fct (gOf K T) mS P w mg base 2 10 "least_of" st_least_of ps_least_of := by
  obtain ⟨fd, FD⟩ := H.def_ 10 (d := dOf "least_of" st_least_of) rfl
  exact fct_of (g := gOf K T) (j := 10) FD (H.glo 10 (by decide)) ⟨rfl, rfl, rfl, by decide +kernel, rfl, by decide +kernel, by decide +kernel⟩ (fun _ _ _ _ _ _ us hl => match us, hl with | [_], _ => rfl)
    (fun C => w_least_of (F_is_less H) C) fun ds M Q E _ h => p_least_of rfl h
theorem F_are_numbers (H : Hd K T mg) : Fct (gOf K T) mS P w mg base 4 11 "are_numbers" st_are_numbers ps_are_numbers := by
  obtain ⟨fd, FD⟩ := H.def_ 11 (d := dOf "are_numbers" st_are_numbers) rfl
  exact fct_of (g := gOf K T) (j := 11) FD (H.glo 11 (by decide)) ⟨rfl, rfl, rfl, by decide +kernel, rfl, by decide +kernel, by decide +kernel⟩ (fun _ _ _ _ _ _ us hl => match us, hl with | [_], _ => rfl)
    (fun C => w_are_numbers H.B (F_is_ratio H) (F_is_chance H) (F_is_less H) (F_total H) H.g_MOST_NUMBERS H.g_ONE C) fun ds M Q E _ h => p_are_numbers rfl rfl rfl rfl rfl rfl h
theorem F_need_numbers (H : Hd K T mg) : Fct (gOf K T) mS P w mg base 5 12 "need_numbers" st_need_numbers ps_need_numbers := by
  obtain ⟨fd, FD⟩ := H.def_ 12 (d := dOf "need_numbers" st_need_numbers) rfl
  exact fct_of (g := gOf K T) (j := 12) FD (H.glo 12 (by decide)) ⟨rfl, rfl, rfl, by decide +kernel, rfl, by decide +kernel, by decide +kernel⟩ (fun _ _ _ _ _ _ us hl => match us, hl with | [_], _ => rfl)
    (fun C => w_need_numbers (F_are_numbers H) (H.ex 1 (by decide)) (fun _ => rfl) C) fun ds M Q E _ h => p_need_numbers rfl rfl h
theorem F_mean_spread (H : Hd K T mg) : Fct (gOf K T) mS P w mg base 6 13 "mean_spread" st_mean_spread ps_mean_spread := by
  obtain ⟨fd, FD⟩ := H.def_ 13 (d := dOf "mean_spread" st_mean_spread) rfl
  exact fct_of (g := gOf K T) (j := 13) FD (H.glo 13 (by decide)) ⟨rfl, rfl, rfl, by decide +kernel, rfl, by decide +kernel, by decide +kernel⟩ (fun _ _ _ _ _ _ us hl => match us, hl with | [_], _ => rfl)
    (fun C => w_mean_spread (F_need_numbers H) (F_total H) (F_times H) (F_minus H) C) fun ds M Q E _ h => p_mean_spread rfl rfl rfl rfl h
theorem F_middles (H : Hd K T mg) : Fct (gOf K T) mS P w mg base 6 14 "middles" st_middles ps_middles := by
  obtain ⟨fd, FD⟩ := H.def_ 14 (d := dOf "middles" st_middles) rfl
  exact fct_of (g := gOf K T) (j := 14) FD (H.glo 14 (by decide)) ⟨rfl, rfl, rfl, by decide +kernel, rfl, by decide +kernel, by decide +kernel⟩ (fun _ _ _ _ _ _ us hl => match us, hl with | [_], _ => rfl)
    (fun C => w_middles (F_need_numbers H) (F_minus H) (F_plus H) (F_is_less H) H.g_ZERO H.g_ONE H.g_HALF C) fun ds M Q E _ h => p_middles rfl rfl rfl rfl rfl rfl rfl h
theorem F_need_spread (H : Hd K T mg) : Fct (gOf K T) mS P w mg base 3 15 "need_spread" st_need_spread ps_need_spread := by
  obtain ⟨fd, FD⟩ := H.def_ 15 (d := dOf "need_spread" st_need_spread) rfl
  exact fct_of (g := gOf K T) (j := 15) FD (H.glo 15 (by decide)) ⟨rfl, rfl, rfl, by decide +kernel, rfl, by decide +kernel, by decide +kernel⟩ (fun _ _ _ _ _ _ us hl => match us, hl with | [_, _], _ => rfl)
    (fun C => w_need_spread (F_is_ratio H) (H.ex 2 (by decide)) (H.ex 3 (by decide)) (fun _ => rfl) C) fun ds M Q E _ h => p_need_spread rfl rfl rfl h
theorem F_one_side (H : Hd K T mg) : Fct (gOf K T) mS P w mg base 3 16 "one_side" st_one_side ps_one_side := by
  obtain ⟨fd, FD⟩ := H.def_ 16 (d := dOf "one_side" st_one_side) rfl
  exact fct_of (g := gOf K T) (j := 16) FD (H.glo 16 (by decide)) ⟨rfl, rfl, rfl, by decide +kernel, rfl, by decide +kernel, by decide +kernel⟩ (fun _ _ _ _ _ _ us hl => match us, hl with | [_, _], _ => rfl)
    (fun C => w_one_side (F_over H) (F_plus H) (F_times H) C) fun ds M Q E _ h => p_one_side rfl rfl rfl h
theorem F_spread_chance (H : Hd K T mg) : Fct (gOf K T) mS P w mg base 4 17 "spread_chance" st_spread_chance ps_spread_chance := by
  obtain ⟨fd, FD⟩ := H.def_ 17 (d := dOf "spread_chance" st_spread_chance) rfl
  exact fct_of (g := gOf K T) (j := 17) FD (H.glo 17 (by decide)) ⟨rfl, rfl, rfl, by decide +kernel, rfl, by decide +kernel, by decide +kernel⟩ (fun _ _ _ _ _ _ us hl => match us, hl with | [_, _], _ => rfl)
    (fun C => w_spread_chance (F_need_spread H) (F_one_side H) C) fun ds M Q E _ h => p_spread_chance rfl rfl h
theorem F_both_chance (H : Hd K T mg) : Fct (gOf K T) mS P w mg base 4 18 "both_chance" st_both_chance ps_both_chance := by
  obtain ⟨fd, FD⟩ := H.def_ 18 (d := dOf "both_chance" st_both_chance) rfl
  exact fct_of (g := gOf K T) (j := 18) FD (H.glo 18 (by decide)) ⟨rfl, rfl, rfl, by decide +kernel, rfl, by decide +kernel, by decide +kernel⟩ (fun _ _ _ _ _ _ us hl => match us, hl with | [_, _], _ => rfl)
    (fun C => w_both_chance (F_need_spread H) (F_least_of H) (F_over H) (F_times H) H.g_ONE C) fun ds M Q E _ h => p_both_chance rfl rfl rfl rfl rfl h
theorem F_spread_numbers (H : Hd K T mg) : Fct (gOf K T) mS P w mg base 4 19 "spread_numbers" st_spread_numbers ps_spread_numbers := by
  obtain ⟨fd, FD⟩ := H.def_ 19 (d := dOf "spread_numbers" st_spread_numbers) rfl
  exact fct_of (g := gOf K T) (j := 19) FD (H.glo 19 (by decide)) ⟨rfl, rfl, rfl, by decide +kernel, rfl, by decide +kernel, by decide +kernel⟩ (fun _ _ _ _ _ _ us hl => match us, hl with | [_, _], _ => rfl)
    (fun C => w_spread_numbers (F_need_spread H) (F_one_side H) (F_minus H) (F_over H) H.g_ZERO H.g_ONE C) fun ds M Q E _ h => p_spread_numbers rfl rfl rfl rfl rfl rfl h
theorem F__law_begun (H : Hd K T mg) : Fct (gOf K T) mS P w mg base 1 20 "_law_begun" st__law_begun ps__law_begun := by
  obtain ⟨fd, FD⟩ := H.def_ 20 (d := dOf "_law_begun" st__law_begun) rfl
  exact fct_of (g := gOf K T) (j := 20) FD (H.glo 20 (by decide)) ⟨rfl, rfl, rfl, by decide +kernel, rfl, by decide +kernel, by decide +kernel⟩ (fun _ _ _ _ _ _ us hl => match us, hl with | [_], _ => rfl)
    (fun C => w__law_begun H.B C) fun ds M Q E _ h => p__law_begun h
theorem F__law_blended (H : Hd K T mg) : Fct (gOf K T) mS P w mg base 1 21 "_law_blended" st__law_blended ps__law_blended := by
  obtain ⟨fd, FD⟩ := H.def_ 21 (d := dOf "_law_blended" st__law_blended) rfl
  exact fct_of (g := gOf K T) (j := 21) FD (H.glo 21 (by decide)) ⟨rfl, rfl, rfl, by decide +kernel, rfl, by decide +kernel, by decide +kernel⟩ (fun _ _ _ _ _ _ us hl => match us, hl with | [_], _ => rfl)
    (fun C => w__law_blended H.B C) fun ds M Q E _ h => p__law_blended h
theorem F__law_draw (H : Hd K T mg) : Fct (gOf K T) mS P w mg base 2 22 "_law_draw" st__law_draw ps__law_draw := by
  obtain ⟨fd, FD⟩ := H.def_ 22 (d := dOf "_law_draw" st__law_draw) rfl
  exact fct_of (g := gOf K T) (j := 22) FD (H.glo 22 (by decide)) ⟨rfl, rfl, rfl, by decide +kernel, rfl, by decide +kernel, by decide +kernel⟩ (fun _ _ _ _ _ _ us hl => match us, hl with | [_, _], _ => rfl)
    (fun C => w__law_draw H.B (F__law_blended H) C) fun ds M Q E _ h => p__law_draw rfl h
theorem F__law_pick (H : Hd K T mg) : Fct (gOf K T) mS P w mg base 3 23 "_law_pick" st__law_pick ps__law_pick := by
  obtain ⟨fd, FD⟩ := H.def_ 23 (d := dOf "_law_pick" st__law_pick) rfl
  exact fct_of (g := gOf K T) (j := 23) FD (H.glo 23 (by decide)) ⟨rfl, rfl, rfl, by decide +kernel, rfl, by decide +kernel, by decide +kernel⟩ (fun _ _ _ _ _ _ us hl => match us, hl with | [_, _], _ => rfl)
    (fun C => w__law_pick H.B (F__law_draw H) C) fun ds M Q E _ h => p__law_pick rfl h
theorem F__law_is_truth (H : Hd K T mg) : Fct (gOf K T) mS P w mg base 1 25 "_law_is_truth" st__law_is_truth ps__law_is_truth := by
  obtain ⟨fd, FD⟩ := H.def_ 25 (d := dOf "_law_is_truth" st__law_is_truth) rfl
  exact fct_of (g := gOf K T) (j := 25) FD (H.glo 25 (by decide)) ⟨rfl, rfl, rfl, by decide +kernel, rfl, by decide +kernel, by decide +kernel⟩ (fun _ _ _ _ _ _ us hl => match us, hl with | [_, _], _ => rfl)
    (fun C => w__law_is_truth  C) fun ds M Q E _ h => h.elim
theorem F__law_same (H : Hd K T mg) : Fct (gOf K T) mS P w mg base 2 26 "_law_same" st__law_same ps__law_same := by
  obtain ⟨fd, FD⟩ := H.def_ 26 (d := dOf "_law_same" st__law_same) rfl
  exact fct_of (g := gOf K T) (j := 26) FD (H.glo 26 (by decide)) ⟨rfl, rfl, rfl, by decide +kernel, rfl, by decide +kernel, by decide +kernel⟩ (fun _ _ _ _ _ _ us hl => match us, hl with | [_, _], _ => rfl)
    (fun C => w__law_same H.B (F__law_is_truth H) C) fun ds M Q E _ h => p__law_same rfl h
theorem F__law_q (H : Hd K T mg) : Fct (gOf K T) mS P w mg base 1 27 "_law_q" st__law_q ps__law_q := by
  obtain ⟨fd, FD⟩ := H.def_ 27 (d := dOf "_law_q" st__law_q) rfl
  exact fct_of (g := gOf K T) (j := 27) FD (H.glo 27 (by decide)) ⟨rfl, rfl, rfl, by decide +kernel, rfl, by decide +kernel, by decide +kernel⟩ (fun _ _ _ _ _ _ us hl => match us, hl with | [_, _], _ => rfl)
    (fun C => w__law_q H.B C) fun ds M Q E _ h => p__law_q h
theorem F__law_plus (H : Hd K T mg) : Fct (gOf K T) mS P w mg base 2 28 "_law_plus" st__law_plus ps__law_plus := by
  obtain ⟨fd, FD⟩ := H.def_ 28 (d := dOf "_law_plus" st__law_plus) rfl
  exact fct_of (g := gOf K T) (j := 28) FD (H.glo 28 (by decide)) ⟨rfl, rfl, rfl, by decide +kernel, rfl, by decide +kernel, by decide +kernel⟩ (fun _ _ _ _ _ _ us hl => match us, hl with | [_, _], _ => rfl)
    (fun C => w__law_plus (F__law_q H) C) fun ds M Q E _ h => p__law_plus rfl h
theorem F__law_minus (H : Hd K T mg) : Fct (gOf K T) mS P w mg base 2 29 "_law_minus" st__law_minus ps__law_minus := by
  obtain ⟨fd, FD⟩ := H.def_ 29 (d := dOf "_law_minus" st__law_minus) rfl
  exact fct_of (g := gOf K T) (j := 29) FD (H.glo 29 (by decide)) ⟨rfl, rfl, rfl, by decide +kernel, rfl, by decide +kernel, by decide +kernel⟩ (fun _ _ _ _ _ _ us hl => match us, hl with | [_, _], _ => rfl)
    (fun C => w__law_minus (F__law_q H) C) fun ds M Q E _ h => p__law_minus rfl h
theorem F__law_times (H : Hd K T mg) : Fct (gOf K T) mS P w mg base 2 30 "_law_times" st__law_times ps__law_times := by
  obtain ⟨fd, FD⟩ := H.def_ 30 (d := dOf "_law_times" st__law_times) rfl
  exact fct_of (g := gOf K T) (j := 30) FD (H.glo 30 (by decide)) ⟨rfl, rfl, rfl, by decide +kernel, rfl, by decide +kernel, by decide +kernel⟩ (fun _ _ _ _ _ _ us hl => match us, hl with | [_, _], _ => rfl)
    (fun C => w__law_times (F__law_q H) C) fun ds M Q E _ h => p__law_times rfl h
theorem F__law_over (H : Hd K T mg) : Fct (gOf K T) mS P w mg base 2 31 "_law_over" st__law_over ps__law_over := by
  obtain ⟨fd, FD⟩ := H.def_ 31 (d := dOf "_law_over" st__law_over) rfl
  exact fct_of (g := gOf K T) (j := 31) FD (H.glo 31 (by decide)) ⟨rfl, rfl, rfl, by decide +kernel, rfl, by decide +kernel, by decide +kernel⟩ (fun _ _ _ _ _ _ us hl => match us, hl with | [_, _], _ => rfl)
    (fun C => w__law_over (F__law_q H) C) fun ds M Q E _ h => p__law_over rfl h
theorem F__law_less (H : Hd K T mg) : Fct (gOf K T) mS P w mg base 1 32 "_law_less" st__law_less ps__law_less := by
  obtain ⟨fd, FD⟩ := H.def_ 32 (d := dOf "_law_less" st__law_less) rfl
  exact fct_of (g := gOf K T) (j := 32) FD (H.glo 32 (by decide)) ⟨rfl, rfl, rfl, by decide +kernel, rfl, by decide +kernel, by decide +kernel⟩ (fun _ _ _ _ _ _ us hl => match us, hl with | [_, _], _ => rfl)
    (fun C => w__law_less  C) fun ds M Q E _ h => p__law_less h
theorem F__law_sum (H : Hd K T mg) : Fct (gOf K T) mS P w mg base 3 33 "_law_sum" st__law_sum ps__law_sum := by
  obtain ⟨fd, FD⟩ := H.def_ 33 (d := dOf "_law_sum" st__law_sum) rfl
  exact fct_of (g := gOf K T) (j := 33) FD (H.glo 33 (by decide)) ⟨rfl, rfl, rfl, by decide +kernel, rfl, by decide +kernel, by decide +kernel⟩ (fun _ _ _ _ _ _ us hl => match us, hl with | [_], _ => rfl)
    (fun C => w__law_sum (F__law_plus H) C) fun ds M Q E _ h => p__law_sum rfl h
theorem F__law_number (H : Hd K T mg) : Fct (gOf K T) mS P w mg base 4 34 "_law_number" st__law_number ps__law_number := by
  obtain ⟨fd, FD⟩ := H.def_ 34 (d := dOf "_law_number" st__law_number) rfl
  exact fct_of (g := gOf K T) (j := 34) FD (H.glo 34 (by decide)) ⟨rfl, rfl, rfl, by decide +kernel, rfl, by decide +kernel, by decide +kernel⟩ (fun _ _ _ _ _ _ us hl => match us, hl with | [_, _], _ => rfl)
    (fun C => w__law_number (F__law_draw H) (F__law_pick H) (F__law_q H) C) fun ds M Q E _ h => p__law_number rfl rfl rfl h
theorem F__law_le_marks (H : Hd K T mg) : Fct (gOf K T) mS P w mg base 5 35 "_law_le_marks" st__law_le_marks ps__law_le_marks := by
  obtain ⟨fd, FD⟩ := H.def_ 35 (d := dOf "_law_le_marks" st__law_le_marks) rfl
  exact fct_of (g := gOf K T) (j := 35) FD (H.glo 35 (by decide)) ⟨rfl, rfl, rfl, by decide +kernel, rfl, by decide +kernel, by decide +kernel⟩ (fun _ _ _ _ _ _ us hl => match us, hl with | [_, _], _ => rfl)
    (fun C => w__law_le_marks H.B (F__law_number H) (F__law_draw H) (F__law_plus H) (F__law_q H) (F__law_pick H) C) fun ds M Q E _ h => p__law_le_marks rfl rfl rfl rfl rfl h
theorem F__law_le_square (H : Hd K T mg) : Fct (gOf K T) mS P w mg base 3 36 "_law_le_square" st__law_le_square ps__law_le_square := by
  obtain ⟨fd, FD⟩ := H.def_ 36 (d := dOf "_law_le_square" st__law_le_square) rfl
  exact fct_of (g := gOf K T) (j := 36) FD (H.glo 36 (by decide)) ⟨rfl, rfl, rfl, by decide +kernel, rfl, by decide +kernel, by decide +kernel⟩ (fun _ _ _ _ _ _ us hl => match us, hl with | [_], _ => rfl)
    (fun C => w__law_le_square (F__law_times H) C) fun ds M Q E _ h => p__law_le_square (k := 0) rfl h
theorem F__law_le_numbers (H : Hd K T mg) : Fct (gOf K T) mS P w mg base 6 37 "_law_le_numbers" st__law_le_numbers ps__law_le_numbers := by
  obtain ⟨fd, FD⟩ := H.def_ 37 (d := dOf "_law_le_numbers" st__law_le_numbers) rfl
  exact fct_of (g := gOf K T) (j := 37) FD (H.glo 37 (by decide)) ⟨rfl, rfl, rfl, by decide +kernel, rfl, by decide +kernel, by decide +kernel⟩ (fun _ _ _ _ _ _ us hl => match us, hl with | [_, _], _ => rfl)
    (fun C => w__law_le_numbers H.B (F__law_draw H) (F__law_le_marks H) (F__law_number H) (F__law_pick H) (F__law_q H) C) fun ds M Q E _ h => p__law_le_numbers rfl rfl rfl rfl rfl h
theorem F__law_k75_off (H : Hd K T mg) : Fct (gOf K T) mS P w mg base 3 38 "_law_k75_off" st__law_k75_off ps__law_k75_off := by
  obtain ⟨fd, FD⟩ := H.def_ 38 (d := dOf "_law_k75_off" st__law_k75_off) rfl
  exact fct_of (g := gOf K T) (j := 38) FD (H.glo 38 (by decide)) ⟨rfl, rfl, rfl, by decide +kernel, rfl, by decide +kernel, by decide +kernel⟩ (fun _ _ _ _ _ _ us hl => match us, hl with | [_, _], _ => rfl)
    (fun C => w__law_k75_off (F__law_minus H) C) fun ds M Q E _ h => p__law_k75_off rfl h
theorem F__law_k75_kind (H : Hd K T mg) : Fct (gOf K T) mS P w mg base 1 39 "_law_k75_kind" st__law_k75_kind ps__law_k75_kind := by
  obtain ⟨fd, FD⟩ := H.def_ 39 (d := dOf "_law_k75_kind" st__law_k75_kind) rfl
  exact fct_of (g := gOf K T) (j := 39) FD (H.glo 39 (by decide)) ⟨rfl, rfl, rfl, by decide +kernel, rfl, by decide +kernel, by decide +kernel⟩ (fun _ _ _ _ _ _ us hl => match us, hl with | [_], _ => rfl)
    (fun C => w__law_k75_kind H.B H.isi rfl rfl rfl (H.ex 1 (by decide)) (H.ex 2 (by decide)) (H.ex 3 (by decide)) C) fun ds M Q E _ h => p__law_k75_kind rfl (fun _ _ => rfl) h

theorem caF (H : Hd K T mg) {c : Addr} (tb : LamX.TabB base mg c T) : CauF (gOf K T) mS mg base 0 24 st__law_caught c where
  fd := H.def_ 24 (d := dOf "_law_caught" st__law_caught) rfl
  mgf := H.glo 24 (by decide)
  sc := ⟨rfl, rfl, rfl, by decide +kernel, rfl, by decide +kernel, by decide +kernel⟩
  vis := .inl rfl
  bind := fun _ _ _ _ _ _ us hl => match us, hl with | [_], _ => rfl
  gv := fun {X cdg q} hm hK => by
    have e : X.mg "BoundError" = some (.ref ((gOf K T).ec 0)) := by rw [hm]; exact (H.ex 0 (by decide)).mgf
    exact caught_gives (a := "action") (y := "found") (n := "error") (e := "BoundError") e (by decide +kernel) (by decide) rfl rfl rfl rfl rfl rfl rfl
  exm := fun k _ => by
    by_cases hk : k < 4
    · exact H.exm k hk
    · have e : exs.getD k "BoundError" = exs.getD 0 "BoundError" := by
        rw [List.getD_eq_getElem?_getD, List.getElem?_eq_none (by show 4 ≤ k; omega)]; rfl
      show PySem.W.exmOne K (.ref (He.ga K (exs.getD k "BoundError"))) (.ref (He.ga K (exs.getD 0 "BoundError"))) = some true
      rw [e]
      exact H.exm 0 (by decide)
  tb := tb
  hx := fun _ _ _ => rfl
theorem heF (H : Hd K T mg) : HeldF (gOf K T) mS P w mg base 7 := fun j n h => by
  have h : (if j = 13 ∨ j = 14 then some 1 else if j = 17 ∨ j = 18 ∨ j = 19 then some 2 else none) = some n := h
  by_cases h1 : j = 13 ∨ j = 14
  · rw [if_pos h1] at h
    cases h
    rcases h1 with rfl | rfl
    · exact ⟨_, _, _, _, by decide, rfl, F_mean_spread H⟩
    · exact ⟨_, _, _, _, by decide, rfl, F_middles H⟩
  · rw [if_neg h1] at h
    by_cases h2 : j = 17 ∨ j = 18 ∨ j = 19
    · rw [if_pos h2] at h
      cases h
      rcases h2 with rfl | rfl | rfl
      · exact ⟨_, _, _, _, by decide, rfl, F_spread_chance H⟩
      · exact ⟨_, _, _, _, by decide, rfl, F_both_chance H⟩
      · exact ⟨_, _, _, _, by decide, rfl, F_spread_numbers H⟩
    · rw [if_neg h2] at h
      cases h
theorem tq_eq : ("law" : Str) ++ ".<locals>." ++ "<lambda>" = ("law.<locals>.<lambda>" : Str) := by decide +kernel
theorem F_law (H : Hd K T mg) {c : Addr} {fd : FuncData} (FD : FunD K "law" "law" (defArgs st_law) (defBody st_law) (defScope st_law) [] [] (He.ga K "law") fd) (hc : fd.code = .ref c) (tb : LamX.TabB base mg c T) : Fct (gOf K T) mS P w mg base 10 40 "law" st_law ps_law :=
  fct_ofC (g := gOf K T) (j := 40) FD hc tq_eq (H.glo 40 (by decide)) ⟨rfl, rfl, rfl, by decide +kernel, rfl, by decide +kernel, by decide +kernel⟩ (fun _ _ _ _ _ _ us hl => match us, hl with | [_], _ => rfl)
    (fun C HC HQ => w_law H.B (F__law_begun H) (F__law_le_numbers H) (F__law_sum H) (F__law_times H) (F__law_k75_off H) (F__law_le_square H) (F__law_same H) (F_mean_spread H) (F__law_less H) (F_middles H) (F__law_minus H) (F__law_pick H) (F__law_q H) (F__law_draw H) (F__law_over H) (F__law_plus H) (F_spread_chance H) (F_both_chance H) (F_spread_numbers H) (F__law_k75_kind H) (caF H tb) HC HQ (heF H) C) fun ds M Q E _ h => p_law mf rfl h
end
end K75

set_option Elab.async false
set_option linter.all false
set_option maxRecDepth 100000
set_option maxHeartbeats 0
/-! the head -/
namespace K75
open PySem PySem.Spec PyProof.Rows L2 PV
def blts : List Str := ["abs", "all", "any", "bool", "dict", "enumerate", "int", "isinstance", "len", "list", "max", "min", "range", "sorted", "str", "sum", "tuple", "zip"]
def faL : List He.Fa := nms.map .glo ++ (exs.map .glo ++ (exs.map .exc ++ (blts.map .free ++ [.int "MOST_NUMBERS" 8, .glo "ZERO", .glo "ONE", .glo "HALF"])))
/-- a class of exceptions for isinstance -/
def xcB (K : PySem.W.Frag) (C : Addr) : Bool := He.eqO (PySem.W.findIn K (.ref C) "__getattribute__") (some (some (.builtin "BaseException.__getattribute__"))) && (He.eqO (PySem.W.findIn K (.ref C) "__getattr__") (some none) && (decide (PySem.W.subIn K (.ref C) (.type "BaseException") = some true) && (PySem.W.hasDictIn K C &&
  (He.eqO (PySem.W.findIn K (.ref C) "__class__") (some (some (.builtin "object.__class__"))) && (He.eqO (PySem.W.specialIn K (.builtin "object.__class__") "__get__") (some (some (.builtin "getset_descriptor.__get__"))) && (decide (PySem.W.takesIn K (.builtin "object.__class__") = some true) && decide (PySem.W.mroIn K C (.type "object") = some true)))))))
theorem xcB_ok {K : PySem.W.Frag} {C : Addr} (h : xcB K C = true) : ExcC K C := by
  obtain ⟨h1, h⟩ := He.ba h
  obtain ⟨h2, h⟩ := He.ba h
  obtain ⟨h3, h⟩ := He.ba h
  obtain ⟨h4, h⟩ := He.ba h
  obtain ⟨h5, h⟩ := He.ba h
  obtain ⟨h6, h⟩ := He.ba h
  obtain ⟨h7, h8⟩ := He.ba h
  exact ⟨He.eqO_ok h1, He.eqO_ok h2, of_decide_eq_true h3, h4, He.eqO_ok h5, He.eqO_ok h6, of_decide_eq_true h7, of_decide_eq_true h8⟩
def ecK (K : PySem.W.Frag) (k : Nat) : Addr := He.ga K (exs.getD k "BoundError")
def pairB (K : PySem.W.Frag) : Bool := (List.range 4).all fun k => xcB K (ecK K k) && (decide (PySem.W.exmOne K (.ref (ecK K k)) (.ref (ecK K 0)) = some true) && (List.range 4).all fun j => decide (PySem.W.kitOne K (.ref (ecK K k)) (.ref (ecK K j)) = some (decide (j = 0) || decide (k = j))))
/-- the law's code table is none of the objects that stand still -/
def lawTB (K : PySem.W.Frag) : Bool := match K.lookup (He.ga K "law") with
  | some ⟨_, _, .func fd, _⟩ => (match fd.code with
    | .ref c => (match K.lookup c with
      | some ⟨_, _, .fields (vs : Array Value), _⟩ => (match (vs[11]? : Option Value) with
        | some (.ref T) => (K.lookup T).isNone
        | _ => false)
      | _ => false)
    | _ => false)
  | _ => false
theorem lawTB_ok {K : PySem.W.Frag} {h : Heap} {c T : Addr} {fd : FuncData} (b : lawTB K = true) (inK : K.In h) (t : TabOf h (He.ga K "law") c T fd) : K.lookup T = none ∧ ∃ oc od osl, K.lookup (He.ga K "law") = some ⟨oc, od, .func fd, osl⟩ := by
  obtain ⟨o, e1, e2, e3, e4, e5⟩ := t
  obtain ⟨o2, vs, _, _, _, _, _, _, _, d1, d2, d3, d4, _⟩ := e4
  unfold lawTB at b
  cases q1 : K.lookup (He.ga K "law") with
  | none => rw [q1] at b; cases b
  | some u =>
    rw [q1] at b
    have i1 := inK _ _ q1
    rw [e1] at i1
    cases i1
    obtain ⟨oc, od, dt, osl⟩ := o
    dsimp only at e2
    subst e2
    dsimp only at b
    rw [e3] at b
    dsimp only at b
    refine ⟨?_, _, _, _, rfl⟩
    cases q2 : K.lookup c with
    | none => rw [q2] at b; cases b
    | some u =>
      rw [q2] at b
      have i2 := inK _ _ q2
      rw [d1] at i2
      cases i2
      obtain ⟨oc2, od2, dt2, osl2⟩ := o2
      dsimp only at d3
      subst d3
      dsimp only at b
      rw [d4] at b
      exact Option.isNone_iff_eq_none.mp b
def ownB (K : PySem.W.Frag) : Bool := He.eqO (PySem.W.nsIn K mainGlobals "gcd") (some (some (.builtin "math.gcd"))) && (He.tupB K "ZERO" [.int 0, .int 1] && (He.tupB K "ONE" [.int 1, .int 1] && (He.tupB K "HALF" [.int 1, .int 2] && (pairB K && lawTB K))))
theorem glo_tup {K : PySem.W.Frag} {T : Addr} {mg : Str → Option Value} {x : Str} {i : Nat} {n d : Int} (hx : mg x = some (.ref (He.ga K x))) (h : He.tupB K x [.int n, .int d] = true) (e : mS.glo i = .tup [.int n, .int d]) : GloF (gOf K T) mS mg i x :=
  ⟨.ref (He.ga K x), _, hx, rfl, fun al H => by
    rw [e]
    exact ⟨He.ga K x, _, rfl, He.tupB_ok h H, reps_ints [n, d]⟩⟩
theorem hd_of {K : PySem.W.Frag} {T : Addr} {h : Heap} {mg : Str → Option Value} (inK : K.In h) (G : h.Ns mainGlobals mg) (o : ownB K = true) (c : He.SaysD faL dl K) : Hd K T mg := by
  obtain ⟨o1, o⟩ := He.ba o
  obtain ⟨o2, o⟩ := He.ba o
  obtain ⟨o3, o⟩ := He.ba o
  obtain ⟨o4, o⟩ := He.ba o
  obtain ⟨o5, o6⟩ := He.ba o
  have free : ∀ {i : Nat} {x : Str}, faL[i]? = some (.free x) → mg x = none := fun {i x} e => He.free_ok inK G (c.fact i e)
  have nk : ∀ k, k < 4 → k = 0 ∨ k = 1 ∨ k = 2 ∨ k = 3 := fun k hk => by omega
  have pr : ∀ k, k < 4 → xcB K (ecK K k) = true ∧ PySem.W.exmOne K (.ref (ecK K k)) (.ref (ecK K 0)) = some true ∧ ∀ j, j < 4 → PySem.W.kitOne K (.ref (ecK K k)) (.ref (ecK K j)) = some (decide (j = 0) || decide (k = j)) := fun k hk => by
    have z := List.all_eq_true.mp o5 k (List.mem_range.mpr hk)
    obtain ⟨z1, z⟩ := He.ba z
    obtain ⟨z2, z3⟩ := He.ba z
    exact ⟨z1, of_decide_eq_true z2, fun j hj => of_decide_eq_true (List.all_eq_true.mp z3 j (List.mem_range.mpr hj))⟩
  have exf : ∀ {k i j : Nat} {x : Str}, exs.getD k "BoundError" = x → faL[i]? = some (.glo x) → faL[j]? = some (.exc x) → ExF (gOf K T) mg k (exs.getD k "BoundError") := fun {k i j x} e h1 h2 => by
    obtain ⟨z1, z2, z3, z4⟩ := He.exc_ok (c.fact j h2)
    have m := He.glo_ok inK G (c.fact i h1)
    subst e
    exact ⟨z1, z2, z3, z4, m⟩
  exact {
    B := ⟨free (i := 49) rfl, free (i := 50) rfl, free (i := 51) rfl, free (i := 52) rfl, free (i := 53) rfl, free (i := 54) rfl, free (i := 55) rfl, free (i := 56) rfl, free (i := 57) rfl, free (i := 58) rfl, free (i := 59) rfl, free (i := 60) rfl, free (i := 61) rfl, free (i := 62) rfl, free (i := 63) rfl, free (i := 64) rfl, free (i := 65) rfl, free (i := 66) rfl⟩
    gcd := PySem.W.mg_of inK G (He.eqO_ok o1)
    glo := fun i hi => He.glo_ok inK G (c.fact i (by
      have hl : nms.length = 41 := rfl
      have h2 : i < (nms.map He.Fa.glo).length := by rw [List.length_map, hl]; exact hi
      show (nms.map He.Fa.glo ++ _)[i]? = _
      rw [List.getElem?_append_left h2, List.getElem?_map, List.getElem?_eq_getElem (by omega)]
      rw [List.getD_eq_getElem?_getD, List.getElem?_eq_getElem (by omega)]; rfl))
    def_ := fun i {d} e => c.def_ i e
    ex := fun k hk => by
      rcases nk k hk with rfl | rfl | rfl | rfl
      · exact exf (i := 41) (j := 45) rfl rfl rfl
      · exact exf (i := 42) (j := 46) rfl rfl rfl
      · exact exf (i := 43) (j := 47) rfl rfl rfl
      · exact exf (i := 44) (j := 48) rfl rfl rfl
    isi := ⟨fun _ _ _ => rfl, fun k hk => xcB_ok (pr k hk).1, fun k j hk hj => (pr k hk).2.2 j hj⟩
    exm := fun k hk => (pr k hk).2.1
    g_ZERO := glo_tup (He.glo_ok inK G (c.fact 68 rfl)) o2 rfl
    g_ONE := glo_tup (He.glo_ok inK G (c.fact 69 rfl)) o3 rfl
    g_MOST_NUMBERS := by
      obtain ⟨t, e⟩ := He.int_ok inK G (c.fact 67 rfl)
      exact ⟨.int 8, _, e, ⟨t, rfl⟩, fun _ _ => rfl⟩
    g_HALF := glo_tup (He.glo_ok inK G (c.fact 70 rfl)) o4 rD_half.symm }
end K75

set_option Elab.async false
set_option linter.all false
set_option maxRecDepth 100000
set_option maxHeartbeats 0
/-! the law -/
namespace K75
open PySem PySem.Spec PyProof.Rows L2 PV
abbrev R : PySem.W.OpenRow := PySem.W.OpenLaw.row PySem.Challenge.rw_chancebounds_k75_whole_chances_by_a_spre
def loose : List PySem.Str := (["BoundError", "BadNumbers", "BadSpread", "BadGap", "ZERO", "ONE", "is_whole", "is_ratio", "is_chance", "lowest", "plus", "minus", "times", "over", "is_less", "total", "least_of", "MOST_NUMBERS", "HALF"] : List PySem.Str) ++ (["are_numbers", "need_numbers", "mean_spread", "middles", "need_spread", "one_side", "spread_chance", "both_chance", "spread_numbers", "_law_begun", "_law_blended", "_law_draw", "_law_pick", "_law_caught", "_law_is_truth", "_law_same", "_law_q", "_law_plus", "_law_minus", "_law_times"] : List PySem.Str) ++ (["_law_over", "_law_less", "_law_sum", "_law_number", "_law_le_marks", "_law_le_square", "_law_le_numbers", "_law_k75_off", "_law_k75_kind"] : List PySem.Str)
abbrev hk : PySem.W.Hook := hookX 2 ownB faL dl
def ob (s : PySem.W.SharedT) : Bool × He.AlD := obsXG 2 ownB faL dl (HeadRun.getT s)
theorem ob_eq (s : PySem.W.SharedT) : ob s = hk.obs s.abs := obsXG_eq (HeadRun.getT_eq s)
theorem run (w : World) : HeadRun.RunEqI R (PySem.W.view R.prog [0, 53]) hk ob 3000 loose w := by
  unfold HeadRun.RunEqI
  kernel_rfl
end K75

set_option Elab.async false
set_option linter.all false
set_option maxRecDepth 100000
set_option maxHeartbeats 0
/-! the law -/
namespace K75
open PySem PySem.Spec PyProof.Rows L2 PV
theorem law_at {w : World} {mg : Str → Option Value} {f : Addr} {h : Heap} (Y : hk.says w h) (G : h.Ns mainGlobals mg) (hf : mg ("law" : Str) = some (.ref f)) (ht : ∃ c T fd, TabOf h f c T fd) :
    ∃ K : PySem.W.Frag, K.In h ∧ LamX.LawAtS PySem.Challenge.rw_chancebounds_k75_whole_chances_by_a_spre w K (L2.CX PySem.Challenge.rw_chancebounds_k75_whole_chances_by_a_spre.prog w) 10 63 "script" mg f h := by
  obtain ⟨K, inK, own, c⟩ := Y
  obtain ⟨cd, T, fd, tab⟩ := ht
  have ef : f = He.ga K "law" := by
    have e := hf.symm.trans ((hd_of (T := T) inK G own c).glo 40 (by decide))
    injection e with e
    injection e
  subst ef
  obtain ⟨o1, o⟩ := He.ba own
  obtain ⟨o2, o⟩ := He.ba o
  obtain ⟨o3, o⟩ := He.ba o
  obtain ⟨o4, o⟩ := He.ba o
  obtain ⟨o5, o6⟩ := He.ba o
  obtain ⟨nT, oc, od, osl, lk⟩ := lawTB_ok o6 inK tab
  obtain ⟨fd2, FD⟩ := c.def_ 40 (d := dOf "law" st_law) rfl
  have FD : FunD K "law" "law" (defArgs st_law) (defBody st_law) (defScope st_law) [] [] (He.ga K "law") fd2 := FD
  have efd : fd2 = fd := by
    obtain ⟨_, _, _, _, _, _, _, _, _, _, _, lk2, _⟩ := FD.ex
    rw [lk] at lk2
    injection lk2 with z
    injection z with _ _ z _
    injection z with z
    exact z.symm
  subst efd
  obtain ⟨_, _, _, hc, hd, he⟩ := tab
  refine ⟨K, inK, fd2, [(cd, T)], spOf (gOf K T) 1 spLaw, fun p hp => ?_, fun p hp => ?_, fun p hp => ?_, fun s u => ?_, fun H a ns hl _ hT hS => ?_, fun base inB nsB tb => ?_⟩
  · rw [List.mem_singleton.mp hp]; exact he
  · rw [List.mem_singleton.mp hp]; exact nT
  · rw [List.mem_singleton.mp hp]; exact hd
  · exact FunD.bindsA (ps := ["script"]) FD (fun _ _ _ _ _ _ us hl => match us, hl with | [_], _ => rfl) s [u] rfl
  · refine sp_start (g := gOf K T) (hT (cd, T) (List.mem_singleton.mpr rfl)) hS fun E' => ⟨ns, _, rfl, ⟨by omega, rfl⟩, fun M' v H' al' _ _ r => ?_⟩
    exact r
  · obtain ⟨⟨fd3, ok, FD3, _⟩, _⟩ := F_law (P := PySem.Challenge.rw_chancebounds_k75_whole_chances_by_a_spre.prog) (w := w) (hd_of (T := T) inK G own c) FD hc (tb (cd, T) (List.mem_singleton.mpr rfl))
    have e3 : fd3 = fd2 := by
      obtain ⟨_, _, _, _, _, _, _, _, _, _, _, lk3, _⟩ := FD3.ex
      have lk3 : K.lookup (He.ga K "law") = _ := lk3
      rw [lk] at lk3
      injection lk3 with z
      injection z with _ _ z _
      injection z with z
      exact z.symm
    subst e3
    exact ok
end K75
open PySem PySem.W PySem.Calls PyProof.Rows
theorem PySem.Challenge.cw_chancebounds_k75_whole_chances_by_a_spre_holds : PySem.Challenge.rw_chancebounds_k75_whole_chances_by_a_spre.Holds := by
  w_on; o_law
  refine HeadRun.head_imp (r := K75.R) (q := view K75.R.prog [0, 53]) (H := K75.hk) (ob := K75.ob) (M := 3000) (loose := K75.loose) (d := HeadRun.topDef K75.R.prog 53) (kwd := []) K75.ob_eq
    K75.run (by kernel_rfl) (by kernel_rfl) (by kernel_rfl) (by rfl) (by first | assumption | decide +kernel) (by decide +kernel) ⟨rfl, rfl, rfl, rfl, rfl, by decide +kernel⟩ ?hw ?hc
  case hw => w_witness2
  case hc =>
    refine PV.walk_tab (l := PySem.Challenge.rw_chancebounds_k75_whole_chances_by_a_spre) (n := 63) (k := 10) (x := "script") (CX := fun w => L2.CX PySem.Challenge.rw_chancebounds_k75_whole_chances_by_a_spre.prog w) rfl (by decide) (by kernel_rfl) ⟨rfl, by decide, by decide⟩ (by kernel_rfl) (fun w mg f h Y G hm ht => ?_) (fun _ _ _ _ _ z => ?_)
    · have e : (HeadRun.topDef K75.R.prog 53).name = ("law" : PySem.Str) := by kernel_rfl
      rw [e] at hm
      exact K75.law_at Y G hm ht
    · obtain ⟨_, _, _, _, _, _, _, _, _, _, _, _, z⟩ := z
      exact z

