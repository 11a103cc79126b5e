import PyProof.Rows.All
import Wide.All
import OpenK.AllK
import Wide.FinOn
import HandS.ForMost
import HandS.Walk
import HandS.IsInst
import HandS.ExcCtx
import HandS.CallSlots
import HandS.ExcInit
import HandS.ExcField
import HandS.TupLe
import HandS.ExcInitHot
import HandS.ExcIs
import HandS.RaiseFrom
import HandS.HotCalls
import KE.KExcIs
import HandS.TupAny
import HandS.SortInts
import HandS.SortRule
import HandS.SortKw
import HandS.SetFor
import KE.DataFind
import HandS.Strs
import KE.DatumOrd
import HandS.Remove
import HandS.More
import HandS.Finally
import HandS.Conv
import PyProof.DictUpdate
import HandS.Zip
import HandS.SuiteRaise
import PySem.Challenge.RW_touchall_k30_what_a_chain_names
set_option Elab.async false
set_option linter.all false
set_option maxRecDepth 100000
/-! MI: a small interpreter over plain data, and that the model runs as it says. -/
namespace MI
open PySem PySem.Spec PyProof.Rows L2

/-! ### data -/
/-- plain data: what is never changed -/
inductive T where
  | non | bl (b : Bool) | int (i : Int) | str (x : Str)
  | lst (xs : List T) | tup (xs : List T) | dct (kvs : List (Key × T)) | dcT (kvs : List (List Key × T))
  | scr (ns : List Int)
/-- plain data, a cell, a tuple in which cells stand -/
inductive D where
  | t (x : T) | ref (c : Nat) | tp (ds : List D)
/-- what may change -/
inductive Cell where
  | dead | lst (ds : List D) | dct (kvs : List (Key × D)) | dcT (kvs : List (List Key × D)) | exn (fts : List (Str × T))
abbrev Mem := List Cell
structure Exn where
  cls : Str
  fs : List (Str × T)
inductive R (α : Type) where
  | ok (a : α) (μ : Mem) | ex (x : Exn) (μ : Mem) | no
abbrev M (α : Type) := Mem → R α
def pur {α : Type} (a : α) : M α := fun μ => .ok a μ
def stuck {α : Type} : M α := fun _ => .no
def bnd {α β : Type} (x : M α) (f : α → M β) : M β := fun μ => match x μ with
  | .ok a μ' => f a μ'
  | .ex e μ' => .ex e μ'
  | .no => .no
def Sat {α : Type} (r : R α) (P : α → Mem → Prop) (E : Exn → Mem → Prop) : Prop := match r with
  | .ok a μ => P a μ
  | .ex x μ => E x μ
  | .no => False
theorem Sat.mono {α : Type} {r : R α} {P P' : α → Mem → Prop} {E E' : Exn → Mem → Prop} (h : Sat r P E) (hp : ∀ a μ, P a μ → P' a μ) (he : ∀ x μ, E x μ → E' x μ) : Sat r P' E' := by
  cases r with
  | ok a μ => exact hp a μ h
  | ex x μ => exact he x μ h
  | no => exact h
theorem Sat.bnd {α β : Type} {x : M α} {f : α → M β} {μ : Mem} {P : β → Mem → Prop} {E : Exn → Mem → Prop} (h : Sat (bnd x f μ) P E) : Sat (x μ) (fun a μ' => Sat (f a μ') P E) E := by
  unfold MI.bnd at h
  cases e : x μ with
  | ok a μ' => rw [e] at h; exact h
  | ex y μ' => rw [e] at h; exact h
  | no => rw [e] at h; exact h
theorem Sat.no {α : Type} {P : α → Mem → Prop} {E : Exn → Mem → Prop} (h : Sat (.no : R α) P E) : False := h

/-! ### what stands in the heap -/
mutual
def repT (K : PySem.W.Frag) (H : Hp) : T → V → Prop
  | .non, v => v = .non
  | .bl b, v => v = .bl b
  | .int i, v => v = .int i
  | .str x, v => v = .str x
  | .lst ts, v => ∃ a vs, v = .ref a ∧ H a = some (.lst vs) ∧ repTs K H ts vs
  | .tup ts, v => ∃ a vs, v = .ref a ∧ H a = some (.tup vs) ∧ repTs K H ts vs
  | .dct kts, v => ∃ a kvs, v = .ref a ∧ H a = some (.dK kvs) ∧ repTK K H kts kvs
  | .dcT kts, v => ∃ a kvs, v = .ref a ∧ H a = some (.dT kvs) ∧ repTKT K H kts kvs
  | .scr ns, v => ∃ a, v = .ref a ∧ SqL K H a (ns.map V.int)
def repTs (K : PySem.W.Frag) (H : Hp) : List T → List V → Prop
  | [], vs => vs = []
  | t :: ts, vs => ∃ v r, vs = v :: r ∧ repT K H t v ∧ repTs K H ts r
def repTK (K : PySem.W.Frag) (H : Hp) : List (Key × T) → List (Key × V) → Prop
  | [], vs => vs = []
  | (k, t) :: ts, vs => ∃ v r, vs = (k, v) :: r ∧ repT K H t v ∧ repTK K H ts r
def repTKT (K : PySem.W.Frag) (H : Hp) : List (List Key × T) → List (List Key × V) → Prop
  | [], vs => vs = []
  | (k, t) :: ts, vs => ∃ v r, vs = (k, v) :: r ∧ repT K H t v ∧ repTKT K H ts r
end
mutual
theorem repT.mono {K : PySem.W.Frag} {H H' : Hp} (s : Same H H') : ∀ {t : T} {v : V}, repT K H t v → repT K H' t v
  | .non, _, h => by simpa only [repT] using h
  | .bl _, _, h => by simpa only [repT] using h
  | .int _, _, h => by simpa only [repT] using h
  | .str _, _, h => by simpa only [repT] using h
  | .lst ts, _, h => by
    simp only [repT] at h ⊢
    obtain ⟨a, vs, e, h1, h2⟩ := h
    exact ⟨a, vs, e, s _ _ h1, repTs.mono s h2⟩
  | .tup ts, _, h => by
    simp only [repT] at h ⊢
    obtain ⟨a, vs, e, h1, h2⟩ := h
    exact ⟨a, vs, e, s _ _ h1, repTs.mono s h2⟩
  | .dct ts, _, h => by
    simp only [repT] at h ⊢
    obtain ⟨a, vs, e, h1, h2⟩ := h
    exact ⟨a, vs, e, s _ _ h1, repTK.mono s h2⟩
  | .dcT ts, _, h => by
    simp only [repT] at h ⊢
    obtain ⟨a, vs, e, h1, h2⟩ := h
    exact ⟨a, vs, e, s _ _ h1, repTKT.mono s h2⟩
  | .scr ns, _, h => by
    simp only [repT] at h ⊢
    obtain ⟨a, e, h1⟩ := h
    exact ⟨a, e, s.seq h1⟩
theorem repTs.mono {K : PySem.W.Frag} {H H' : Hp} (s : Same H H') : ∀ {t : List T} {v : List V}, repTs K H t v → repTs K H' t v
  | [], _, h => by simpa only [repTs] using h
  | t :: ts, _, h => by
    simp only [repTs] at h ⊢
    obtain ⟨v, r, e, h1, h2⟩ := h
    exact ⟨v, r, e, repT.mono s h1, repTs.mono s h2⟩
theorem repTK.mono {K : PySem.W.Frag} {H H' : Hp} (s : Same H H') : ∀ {t : List (Key × T)} {v : List (Key × V)}, repTK K H t v → repTK K H' t v
  | [], _, h => by simpa only [repTK] using h
  | (k, t) :: ts, _, h => by
    simp only [repTK] at h ⊢
    obtain ⟨v, r, e, h1, h2⟩ := h
    exact ⟨v, r, e, repT.mono s h1, repTK.mono s h2⟩
theorem repTKT.mono {K : PySem.W.Frag} {H H' : Hp} (s : Same H H') : ∀ {t : List (List Key × T)} {v : List (List Key × V)}, repTKT K H t v → repTKT K H' t v
  | [], _, h => by simpa only [repTKT] using h
  | (k, t) :: ts, _, h => by
    simp only [repTKT] at h ⊢
    obtain ⟨v, r, e, h1, h2⟩ := h
    exact ⟨v, r, e, repT.mono s h1, repTKT.mono s h2⟩
end
mutual
def rep (K : PySem.W.Frag) (H : Hp) (m : List Addr) : D → V → Prop
  | .t x, v => repT K H x v
  | .ref c, v => ∃ a, m[c]? = some a ∧ v = .ref a
  | .tp ds, v => ∃ a vs, v = .ref a ∧ H a = some (.tup vs) ∧ reps K H m ds vs
def reps (K : PySem.W.Frag) (H : Hp) (m : List Addr) : List D → List V → Prop
  | [], vs => vs = []
  | d :: ds, vs => ∃ v r, vs = v :: r ∧ rep K H m d v ∧ reps K H m ds r
end
def repK (K : PySem.W.Frag) (H : Hp) (m : List Addr) {κ : Type} : List (κ × D) → List (κ × V) → Prop
  | [], vs => vs = []
  | (k, d) :: ds, vs => ∃ v r, vs = (k, v) :: r ∧ rep K H m d v ∧ repK K H m ds r
mutual
theorem rep.mono {K : PySem.W.Frag} {H H' : Hp} {m m' : List Addr} (s : Same H H') (p : ∀ (c : Nat) (a : Addr), m[c]? = some a → m'[c]? = some a) : ∀ {t : D} {v : V}, rep K H m t v → rep K H' m' t v
  | .t x, _, h => by
    simp only [rep] at h ⊢
    exact h.mono s
  | .ref c, _, h => by
    simp only [rep] at h ⊢
    obtain ⟨a, h1, h2⟩ := h
    exact ⟨a, p _ _ h1, h2⟩
  | .tp ds, _, h => by
    simp only [rep] at h ⊢
    obtain ⟨a, vs, e, h1, h2⟩ := h
    exact ⟨a, vs, e, s _ _ h1, reps.mono s p h2⟩
theorem reps.mono {K : PySem.W.Frag} {H H' : Hp} {m m' : List Addr} (s : Same H H') (p : ∀ (c : Nat) (a : Addr), m[c]? = some a → m'[c]? = some a) : ∀ {t : List D} {v : List V}, reps K H m t v → reps K H' m' t v
  | [], _, h => by simpa only [reps] using h
  | t :: ts, _, h => by
    simp only [reps] at h ⊢
    obtain ⟨v, r, e, h1, h2⟩ := h
    exact ⟨v, r, e, rep.mono s p h1, reps.mono s p h2⟩
end
theorem repK.mono {K : PySem.W.Frag} {H H' : Hp} {m m' : List Addr} {κ : Type} (s : Same H H') (p : ∀ (c : Nat) (a : Addr), m[c]? = some a → m'[c]? = some a) : ∀ {t : List (κ × D)} {v : List (κ × V)}, repK K H m t v → repK K H' m' t v
  | [], _, h => h
  | (k, t) :: ts, _, h => by
    obtain ⟨v, r, e, h1, h2⟩ := h
    exact ⟨v, r, e, rep.mono s p h1, repK.mono s p h2⟩

def repF (K : PySem.W.Frag) (H : Hp) : List (Str × T) → List (Str × V) → Prop
  | [], vs => vs = []
  | (k, t) :: ts, vs => ∃ v r, vs = (k, v) :: r ∧ repT K H t v ∧ repF K H ts r
theorem repF.mono {K : PySem.W.Frag} {H H' : Hp} (s : Same H H') : ∀ {fs : List (Str × T)} {vs : List (Str × V)}, repF K H fs vs → repF K H' fs vs
  | [], _, h => h
  | (f, t) :: fs, _, h => by
    obtain ⟨v, r, e, h1, h2⟩ := h
    exact ⟨v, r, e, repT.mono s h1, repF.mono s h2⟩
/-- one cell -/
def CellOk (K : PySem.W.Frag) (H H0 : Hp) (m : List Addr) (a : Addr) : Cell → Prop
  | .dead => True
  | .lst ds => H0 a = none ∧ ∃ vs, H a = some (.lst vs) ∧ reps K H0 m ds vs
  | .dct kds => H0 a = none ∧ ∃ kvs, H a = some (.dK kvs) ∧ repK K H0 m kds kvs
  | .dcT kds => H0 a = none ∧ ∃ kvs, H a = some (.dT kvs) ∧ repK K H0 m kds kvs
  | .exn fts => H0 a = none ∧ ∃ (C dx : Addr) (fvs : List (Str × V)), H a = some (L2.exo a C (some dx)) ∧ H0 dx = some (L2.exd dx fvs) ∧ repF K H0 fts fvs ∧ L2.XfC K C ∧ ∀ p ∈ fts, PySem.W.findIn K (.ref C) p.1 = some none
structure RelM (K : PySem.W.Frag) (H H0 : Hp) (m : List Addr) (μ : Mem) : Prop where
  same : Same H0 H
  len : m.length = μ.length
  nd : m.Nodup
  ne : ∀ a ∈ m, H a ≠ none
  cell : ∀ (c : Nat) (a : Addr) (cl : Cell), m[c]? = some a → μ[c]? = some cl → CellOk K H H0 m a cl
/-- from one moment to a later one -/
structure Step (H H0 : Hp) (m : List Addr) (H' H0' : Hp) (m' : List Addr) : Prop where
  same : Same H0 H0'
  pre : ∃ new, m' = m ++ new
  fresh : ∀ a ∈ m', a ∈ m ∨ H a = none
  frame : ∀ b o, H b = some o → b ∉ m → H' b = some o
  frz : ∀ a, H0' a ≠ none → H0 a ≠ none ∨ a ∈ m ∨ H a = none
theorem Step.refl {H H0 : Hp} {m : List Addr} : Step H H0 m H H0 m :=
  ⟨Same.refl _, ⟨[], by simp⟩, fun _ h => .inl h, fun _ _ h _ => h, fun _ h => .inl h⟩
theorem Step.at {H H0 H' H0' : Hp} {m m' : List Addr} (s : Step H H0 m H' H0' m') : ∀ (c : Nat) (a : Addr), m[c]? = some a → m'[c]? = some a := fun c a h => by
  obtain ⟨n, e⟩ := s.pre
  rw [e, List.getElem?_append_left]
  · exact h
  · exact (List.getElem?_eq_some_iff.mp h).1
theorem Step.mem {H H0 H' H0' : Hp} {m m' : List Addr} (s : Step H H0 m H' H0' m') : ∀ a ∈ m, a ∈ m' := fun a h => by
  obtain ⟨n, e⟩ := s.pre
  rw [e]
  exact List.mem_append_left _ h
theorem Step.free {H H0 H' H0' : Hp} {m m' : List Addr} (s : Step H H0 m H' H0' m') {a : Addr} (h : H' a = none) : a ∈ m ∨ H a = none := by
  cases q : H a with
  | none => exact .inr rfl
  | some o =>
    by_cases hm : a ∈ m
    · exact .inl hm
    · rw [s.frame a o q hm] at h; cases h
theorem Step.trans {H H0 H1 H01 H2 H02 : Hp} {m m1 m2 : List Addr} (a : Step H H0 m H1 H01 m1) (b : Step H1 H01 m1 H2 H02 m2) : Step H H0 m H2 H02 m2 where
  same := a.same.trans b.same
  pre := by
    obtain ⟨n, e⟩ := a.pre
    obtain ⟨n', e'⟩ := b.pre
    exact ⟨n ++ n', by rw [e', e, List.append_assoc]⟩
  fresh := fun x hx => by
    rcases b.fresh x hx with h | h
    · exact a.fresh x h
    · exact a.free h
  frame := fun x o h hn => by
    refine b.frame x o (a.frame x o h hn) fun hm => ?_
    rcases a.fresh x hm with q | q
    · exact hn q
    · rw [h] at q; cases q
  frz := fun x hx => by
    rcases b.frz x hx with h | h | h
    · exact a.frz x h
    · rcases a.fresh x h with q | q
      · exact .inr (.inl q)
      · exact .inr (.inr q)
    · rcases a.free h with q | q
      · exact .inr (.inl q)
      · exact .inr (.inr q)
theorem rep.step {K : PySem.W.Frag} {H H0 H' H0' : Hp} {m m' : List Addr} {d : D} {v : V} (h : rep K H0 m d v) (s : Step H H0 m H' H0' m') : rep K H0' m' d v := h.mono s.same s.at
theorem reps.step {K : PySem.W.Frag} {H H0 H' H0' : Hp} {m m' : List Addr} {d : List D} {v : List V} (h : reps K H0 m d v) (s : Step H H0 m H' H0' m') : reps K H0' m' d v := h.mono s.same s.at

/-! ### the slots -/
abbrev Envv := List (Option D)
structure EnvOk (K : PySem.W.Frag) (H0 : Hp) (m : List Addr) (env : Envv) (σ : L2.St) : Prop where
  len : env.length = σ.length
  get : ∀ (i : Nat) (d : D), env[i]? = some (some d) → ∃ v, σ[i]? = some (some v) ∧ rep K H0 m d v
theorem EnvOk.step {K : PySem.W.Frag} {H H0 H' H0' : Hp} {m m' : List Addr} {env : Envv} {σ : L2.St} (h : EnvOk K H0 m env σ) (s : Step H H0 m H' H0' m') : EnvOk K H0' m' env σ :=
  ⟨h.len, fun i d e => let ⟨v, h1, h2⟩ := h.get i d e; ⟨v, h1, h2.step s⟩⟩
theorem EnvOk.set {K : PySem.W.Frag} {H0 : Hp} {m : List Addr} {env : Envv} {σ : L2.St} (h : EnvOk K H0 m env σ) {i : Nat} {d : D} {v : V} (r : rep K H0 m d v) : EnvOk K H0 m (env.set i (some d)) (σ.set i (some v)) := by
  refine ⟨by simpa using h.len, fun j e q => ?_⟩
  by_cases hj : i = j
  · subst hj
    have hl : i < env.length := by
      by_cases hl : i < env.length
      · exact hl
      · rw [List.getElem?_eq_none (by simpa using hl)] at q; cases q
    rw [List.getElem?_set_self hl] at q
    cases q
    exact ⟨v, by rw [List.getElem?_set_self (by rw [← h.len]; exact hl)], r⟩
  · rw [List.getElem?_set_ne hj] at q ⊢
    exact h.get j e q
end MI
/-! MI1: the interpreter. -/
namespace MI
open PySem PySem.Spec PyProof.Rows L2

inductive Bop where | add | sub | mul | fdiv | mod | pow
  deriving DecidableEq
inductive Cop where | eq | ne | lt | le | gt | ge | isN | notN | mem | nmem
  deriving DecidableEq
inductive Bfn where | len | list | min2 | max2 | sum | all | sorted | int1 | tup1 | min1 | max1
  deriving DecidableEq
inductive Mth where | append | pop | clear | remove | insert | extend | dget | dclear | dupd
  deriving DecidableEq
/-- built-in types -/
inductive Ty where | non | bl | int | str | lst | tup | dct
  deriving DecidableEq
inductive Tg where
  | nm (i : Nat) | tp (ts : List Tg)
mutual
inductive E where
  | var (i : Nat) | cst (t : T) | glo (x : Str) (t : T)
  | bin (op : Bop) (a b : E) | neg (a : E)
  | cmp (op : Cop) (a b : E) | chn (p q : Cop) (a b c : E)
  | and (a b : E) | or (a b : E) | not (a : E) | ite (c a b : E)
  | tup (es : Es) | lst (fz : Bool) (es : Es) | dnew (kt : Bool) | dd1 (a b : E)
  | ix (a b : E) | slc (fz : Bool) (a : E) (lo hi : Eo)
  | call (f : Nat) (es : Es) | bfn (fz : Bool) (b : Bfn) (es : Es) | srev (fz : Bool) (a : E) | sset (fz : Bool) (a : E) | mxd (mx : Bool) (a : E) (k : Int)
  | isi (a : E) (ks : List Ty)
  | mth (m : Mth) (o : E) (es : Es) | new (c : Str) (fs : List Str) (es : Es) | fldv (i : Nat) (f : Str)
  | comp (fz : Bool) (own : List (Str × Nat)) (tg : Tg) (it : It) (ifs : Es) (e : E)
inductive Es where
  | nil | cons (e : E) (es : Es)
inductive Eo where
  | none | some (e : E)
inductive It where
  | val (e : E) | rng1 (a : E) | rng2 (a b : E) | enm (e : E) | zip (a b : E) | rev (e : E)
end
/-! ### the small language of except suites -/
mutual
inductive HE where
  | var (j : Nat) | cst (t : T) | fld (f : Str) (cs : List Str) | isi (c : Str) (tab : List (Str × Bool)) | oth (f : Str) (tab : List (Str × Bool)) | cmp (op : Cop) (a b : HE) | and (a b : HE) | or (a b : HE) | or3 (a b c : HE) | not (a : HE) | tup (es : HEs) | lst (es : HEs)
inductive HEs where
  | nil | cons (e : HE) (es : HEs)
end
mutual
inductive HS where
  | ret (e : HE) | asg (j : Nat) (e : HE) | ife (c : HE) (a b : HSs) | pss | unk
inductive HSs where
  | nil | cons (s : HS) (ss : HSs)
end
mutual
inductive S where
  | asg (tg : Tg) (e : E) | setx (o i e : E) | xpr (e : E) | ret (e : E) | retN
  | ife (c : E) (a b : Ss) | for (tg : Tg) (it : It) (b : Ss) | whl (n : Nat) (c : E) (b : Ss)
  | brk | cnt | pss | unk | rse (c : Str) (fs : List Str) (es : Es) | rsm (c m : Str) | tryx (b : Ss) (c : Str) (tab : List (Str × Bool)) (i : Option Nat) (h : HSs) | tryr (e : E) (c : Str) (tab : List (Str × Bool)) (c2 m : Str)
inductive Ss where
  | nil | cons (s : S) (ss : Ss)
end

/-! ### views -/
def lstOf (μ : Mem) : D → Option (List D)
  | .t (.lst ts) => some (ts.map D.t)
  | .t (.scr ns) => some (ns.map fun n => D.t (.int n))
  | .ref c => match μ[c]? with
    | some (.lst ds) => some ds
    | _ => none
  | _ => none
def lstN (μ : Mem) : D → Option (List D)
  | .t (.scr _) => none
  | d => lstOf μ d
def tupOf : D → Option (List D)
  | .t (.tup ts) => some (ts.map D.t)
  | .tp ds => some ds
  | _ => none
def dctOf (μ : Mem) : D → Option (List (Key × D))
  | .t (.dct kts) => some (kts.map fun p => (p.1, D.t p.2))
  | .ref c => match μ[c]? with
    | some (.dct kds) => some kds
    | _ => none
  | _ => none
def dctTOf (μ : Mem) : D → Option (List (List Key × D))
  | .t (.dcT kts) => some (kts.map fun p => (p.1, D.t p.2))
  | .ref c => match μ[c]? with
    | some (.dcT kds) => some kds
    | _ => none
  | _ => none
def toT : D → Option T
  | .t x => some x
  | _ => none
def toTs : List D → Option (List T)
  | [] => some []
  | .t x :: ds => (toTs ds).map (x :: ·)
  | _ :: _ => none
def toI : D → Option Int
  | .t (.int i) => some i
  | _ => none
def toIs : List D → Option (List Int)
  | [] => some []
  | .t (.int i) :: ds => (toIs ds).map (i :: ·)
  | _ :: _ => none
def toBs : List D → Option (List Bool)
  | [] => some []
  | .t (.bl b) :: ds => (toBs ds).map (b :: ·)
  | _ :: _ => none
def keyOf : D → Option Key
  | .t (.int i) => some (.inl i)
  | .t (.str x) => some (.inr x)
  | _ => none
def keysOf : List T → Option (List Key)
  | [] => some []
  | .int i :: ts => (keysOf ts).map (Sum.inl i :: ·)
  | .str x :: ts => (keysOf ts).map (Sum.inr x :: ·)
  | _ :: _ => none
def keyTOf : D → Option (List Key)
  | .t (.tup ts) => keysOf ts
  | _ => none
def getK {κ : Type} [DecidableEq κ] (kds : List (κ × D)) (k : κ) : Option D := (kds.find? fun kd => decide (kd.1 = k)).map (·.2)
def putK {κ : Type} [DecidableEq κ] (kds : List (κ × D)) (k : κ) (d : D) : List (κ × D) :=
  if (kds.any fun kd => decide (kd.1 = k)) = true then kds.map (fun kd => if kd.1 = k then (kd.1, d) else kd) else kds ++ [(k, d)]
def flatD : D → Bool
  | .t .non => true
  | .t (.bl _) => true
  | .t (.int _) => true
  | .t (.str _) => true
  | _ => false

/-! ### operations -/
/-- a new list -/
def mkL (fz : Bool) (ds : List D) : M D := fun μ =>
  if ds.length ≤ sizeLine then
    match fz with
    | true => match toTs ds with
      | some ts => .ok (.t (.lst ts)) μ
      | none => .no
    | false => .ok (.ref μ.length) (μ ++ [.lst ds])
  else .no
def mkTup (ds : List D) : M D := fun μ =>
  if ds.length ≤ sizeLine then
    match toTs ds with
    | some ts => .ok (.t (.tup ts)) μ
    | none => .ok (.tp ds) μ
  else .no
def inR (i : Int) : Bool := decide (-(2 ^ 64) < i) && decide (i < 2 ^ 64)
/-- classical: the kernel is not to weigh such a test -/
noncomputable def ifC {α : Type} (p : Prop) (a b : α) : α := @ite α p (Classical.propDecidable p) a b
theorem ifC_pos {α : Type} {p : Prop} {a b : α} (h : p) : ifC p a b = a := by unfold ifC; exact if_pos h
noncomputable def binI : Bop → Int → Int → Option Int
  | .add, i, j => some (i + j)
  | .sub, i, j => some (i - j)
  | .mul, i, j => ifC ((inR i || inR j) = true) (some (i * j)) none
  | .fdiv, i, j => ifC (0 < j ∧ j < 1073741824) (some (i / j)) none
  | .mod, i, j => if 0 < j then some (i % j) else none
  | .pow, i, j => if 0 ≤ j ∧ j ≤ 1000000 ∧ i.natAbs < 2 ^ 64 then some (i ^ j.toNat) else none
noncomputable def binD (op : Bop) (x y : D) : M D := fun μ => match x, y with
  | .t (.int i), .t (.int j) => match binI op i j with
    | some k => .ok (.t (.int k)) μ
    | none => .no
  | _, _ => match op with
    | .add => match lstN μ x, lstN μ y with
      | some xs, some ys => mkL true (xs ++ ys) μ
      | _, _ => match x, y with
        | .t (.tup a), .t (.tup b) => mkTup ((a ++ b).map D.t) μ
        | _, _ => .no
    | .mul => match lstN μ x, y with
      | some xs, .t (.int k) => if 0 ≤ k ∧ k ≤ 1000000 ∧ xs.length * k.toNat ≤ sizeLine then mkL true (List.replicate k.toNat xs).flatten μ else .no
      | _, _ => .no
    | _ => .no
def scalD : D → D → Option Bool
  | .t .non, .t .non => some true
  | .t (.bl a), .t (.bl b) => some (a == b)
  | .t (.int a), .t (.int b) => some (a == b)
  | .t (.str a), .t (.str b) => some (decide (a = b))
  | _, _ => none
def cmpI : Cop → Int → Int → Option Bool
  | .lt, i, j => some (decide (i < j))
  | .le, i, j => some (decide (i ≤ j))
  | .gt, i, j => some (decide (j < i))
  | .ge, i, j => some (decide (j ≤ i))
  | _, _, _ => none
def isNon : D → Bool
  | .t .non => true
  | _ => false
/-- == of two flat values (True == 1) -/
def eqF : T → T → Bool
  | .non, .non => true
  | .bl a, .bl b => a == b
  | .int a, .int b => a == b
  | .str a, .str b => decide (a = b)
  | .bl a, .int b => (if a then 1 else 0) == b
  | .int a, .bl b => a == (if b then 1 else 0)
  | _, _ => false
def flatT : T → Bool
  | .non => true
  | .bl _ => true
  | .int _ => true
  | .str _ => true
  | _ => false
mutual
def toP : T → Option PyData
  | .non => some .none
  | .bl b => some (.bool b)
  | .int i => some (.int i)
  | .str x => some (.str x)
  | .lst ts => (toPs ts).map PyData.list
  | .tup ts => (toPs ts).map PyData.tuple
  | .scr ns => some (.list (ns.map PyData.int))
  | .dct _ => none
  | .dcT _ => none
def toPs : List T → Option (List PyData)
  | [] => some []
  | t :: ts => match toP t, toPs ts with
    | some d, some ds => some (d :: ds)
    | _, _ => none
end
def deepC (μ : Mem) : D → Option PyData
  | .t x => toP x
  | .ref c => match μ[c]? with
    | some (.lst ds) => ((toTs ds).bind toPs).map PyData.list
    | _ => none
  | .tp _ => none
def deepCs (μ : Mem) : List D → Option (List PyData)
  | [] => some []
  | d :: ds => match deepC μ d, deepCs μ ds with
    | some x, some xs => some (x :: xs)
    | _, _ => none
def deepD (μ : Mem) : D → Option PyData
  | .t x => toP x
  | .ref c => match μ[c]? with
    | some (.lst ds) => ((toTs ds).bind toPs).map PyData.list
    | _ => none
  | .tp ds => (deepCs μ ds).map PyData.tuple
/-- == of any depth -/
def eqP (μ : Mem) (x y : D) : Option Bool := match deepD μ x, deepD μ y with
  | some d, some e => if SeqAt.shaped d && SeqAt.shaped e then some (PyData.eqv d e) else none
  | _, _ => none
/-- in, of any depth -/
def memP (μ : Mem) (x y : D) : Option Bool := match deepD μ x, deepD μ y with
  | some d, some (.list ds) => if d.canLay0 && PyData.canLayAll0 ds && decide (d.depth ≤ 63) then some (ds.any fun z => PyData.eqv z d) else none
  | _, _ => none
def memD (x : D) (y : D) (μ : Mem) : Option Bool :=
  match dctOf μ y with
  | some kds => match keyOf x with
    | some k => some (getK kds k).isSome
    | none => none
  | none => match dctTOf μ y with
    | some kds => match keyTOf x with
      | some k => some (getK kds k).isSome
      | none => none
    | none => match (match lstOf μ y with | some l => some l | none => tupOf y) with
      | some ds => match x, toTs ds with
        | .t x, some ts => if flatT x && ts.all flatT then some (ts.any fun y => eqF y x) else memP μ (.t x) y
        | _, _ => none
      | none => none
/-- a < b of tuples of ints -/
def lexI : List Int → List Int → Bool := HT.lexLt
/-- ≤ of tuples -/
def leI (ns ms : List Int) : Bool := Ob.lexAt (fun j => decide (ns.getD j 0 = ms.getD j 0)) (fun j => decide (ns.getD j 0 ≤ ms.getD j 0)) (decide (ns.length ≤ ms.length)) 0 (min ns.length ms.length)
def tupIs (d : D) : Option (List Int) := match tupOf d with
  | some ds => toIs ds
  | none => none
def cmpD (op : Cop) (x y : D) : M D := fun μ => match op with
  | .isN => if isNon y then .ok (.t (.bl (isNon x))) μ else match x, y with
    | .t (.bl a), .t (.bl b) => .ok (.t (.bl (a == b))) μ
    | _, _ => .no
  | .notN => if isNon y then .ok (.t (.bl (!isNon x))) μ else match x, y with
    | .t (.bl a), .t (.bl b) => .ok (.t (.bl (!(a == b)))) μ
    | _, _ => .no
  | .eq => match (match scalD x y with | some b => some b | none => eqP μ x y) with
    | some b => .ok (.t (.bl b)) μ
    | none => .no
  | .ne => match (match scalD x y with | some b => some b | none => eqP μ x y) with
    | some b => .ok (.t (.bl (!b))) μ
    | none => .no
  | .mem => match memD x y μ with
    | some b => .ok (.t (.bl b)) μ
    | none => .no
  | .nmem => match memD x y μ with
    | some b => .ok (.t (.bl (!b))) μ
    | none => .no
  | op => match toI x, toI y with
    | some i, some j => match cmpI op i j with
      | some b => .ok (.t (.bl b)) μ
      | none => .no
    | _, _ => match op, tupIs x, tupIs y with
      | .lt, some ns, some ms => .ok (.t (.bl (lexI ns ms))) μ
      | .le, some ns, some ms => .ok (.t (.bl (leI ns ms))) μ
      | _, _, _ => .no
def idx (n : Nat) (i : Int) : Option Nat := if 0 ≤ i then (if i < n then some i.toNat else none) else if -(n : Int) ≤ i then some (i + n).toNat else none
def ixD (x y : D) : M D := fun μ => match dctOf μ x with
  | some kds => match keyOf y with
    | some k => match getK kds k with
      | some d => .ok d μ
      | none => .no
    | none => .no
  | none => match dctTOf μ x with
    | some kds => match keyTOf y with
      | some k => match getK kds k with
        | some d => .ok d μ
        | none => .no
      | none => .no
    | none => match (match lstOf μ x with | some l => some l | none => tupOf x), toI y with
      | some ds, some i => match (idx ds.length i).bind (fun j => ds[j]?) with
        | some d => .ok d μ
        | none => .no
      | _, _ => .no
def sIx (n d : Nat) : Option Int → Nat := HT.sIx n d
def cutD (ds : List D) (lo hi : Option Int) : List D := (ds.drop (sIx ds.length 0 lo)).take (sIx ds.length ds.length hi - sIx ds.length 0 lo)
def slcD (fz : Bool) (x : D) (lo hi : Option Int) : M D := fun μ => match lstOf μ x with
  | some ds => mkL fz (cutD ds lo hi) μ
  | none => match x with
    | .t (.tup ts) => mkTup (cutD (ts.map D.t) lo hi) μ
    | _ => .no
def kD : Key → D
  | .inl i => .t (.int i)
  | .inr x => .t (.str x)
def mergeD (kds more : List (Key × D)) : List (Key × D) := more.foldl (fun acc p => putK acc p.1 p.2) kds
def insI (x : Int) : List Int → List Int
  | [] => [x]
  | y :: ys => if x ≤ y then x :: y :: ys else y :: insI x ys
def sortI : List Int → List Int
  | [] => []
  | x :: xs => insI x (sortI xs)
def toPr : D → Option (Int × Int)
  | .t (.tup [.int i, .int j]) => some (i, j)
  | _ => none
def toPrs : List D → Option (List (Int × Int))
  | [] => some []
  | d :: ds => match toPr d, toPrs ds with
    | some p, some ps => some (p :: ps)
    | _, _ => none
def lexP (p q : Int × Int) : Bool := if p.1 = q.1 then decide (p.2 < q.2) else decide (p.1 < q.1)
def insP (x : Int × Int) : List (Int × Int) → List (Int × Int)
  | [] => [x]
  | y :: ys => if lexP y x then y :: insP x ys else x :: y :: ys
def sortP : List (Int × Int) → List (Int × Int)
  | [] => []
  | x :: xs => insP x (sortP xs)
def bfnD (fz : Bool) (b : Bfn) (ds : List D) : M D := fun μ => match b, ds with
  | .len, [.t (.str x)] => if x.length ≤ sizeLine then .ok (.t (.int x.length)) μ else .no
  | .len, [d] => match (match lstOf μ d with | some l => some l | none => tupOf d) with
    | some l => .ok (.t (.int l.length)) μ
    | none => match dctOf μ d with
      | some l => .ok (.t (.int l.length)) μ
      | none => .no
  | .list, [d] => match (match lstOf μ d with | some l => some l | none => tupOf d) with
    | some l => mkL fz l μ
    | none => match dctOf μ d with
      | some kds => mkL fz (kds.map fun p => kD p.1) μ
      | none => .no
  | .min2, [x, y] => match toI x, toI y with
    | some i, some j => .ok (.t (.int (if j < i then j else i))) μ
    | _, _ => .no
  | .max2, [x, y] => match toI x, toI y with
    | some i, some j => .ok (.t (.int (if j > i then j else i))) μ
    | _, _ => .no
  | .sum, [d] => match (lstOf μ d).bind toIs with
    | some ns => .ok (.t (.int ns.sum)) μ
    | none => .no
  | .all, [d] => match (lstOf μ d).bind toBs with
    | some bs => .ok (.t (.bl (bs.all id))) μ
    | none => .no
  | .sorted, [d] => match (lstOf μ d).bind toIs with
    | some ns => mkL fz ((sortI ns).map fun n => D.t (.int n)) μ
    | none => match (lstOf μ d).bind toPrs with
      | some ps => mkL fz ((sortP ps).map fun p => D.t (.tup [.int p.1, .int p.2])) μ
      | none => .no
  | .int1, [.t (.int i)] => .ok (.t (.int i)) μ
  | .int1, [.t (.bl b)] => .ok (.t (.int (if b = true then 1 else 0))) μ
  | .tup1, [d] => match lstOf μ d with
    | some l => mkTup l μ
    | none => .no
  | .min1, [d] => match (lstOf μ d).bind toIs with
    | some (n :: ns) => .ok (.t (.int (ns.foldl (fun a y => if y < a then y else a) n))) μ
    | _ => .no
  | .max1, [d] => match (lstOf μ d).bind toIs with
    | some (n :: ns) => .ok (.t (.int (ns.foldl (fun a y => if a < y then y else a) n))) μ
    | _ => .no
  | _, _ => .no
/-- sorted(set(x)) -/
def dedI : List Int → List Int
  | [] => []
  | x :: xs => if xs.contains x then dedI xs else x :: dedI xs
def ssetD (fz : Bool) (d : D) : M D := fun μ => match (lstOf μ d).bind toIs with
  | some ns => if ns.length < 64 then mkL fz ((sortI (dedI ns)).map fun n => D.t (.int n)) μ else .no
  | none => .no
/-- max(x, default=k), min(x, default=k) -/
def mxOf (mx : Bool) (k : Int) : List Int → Int
  | [] => k
  | n :: ns => if mx = true then ns.foldl (fun a y => if a < y then y else a) n else ns.foldl (fun a y => if y < a then y else a) n
def mxD (mx : Bool) (k : Int) (d : D) : M D := fun μ => match (lstOf μ d).bind toIs with
  | some ns => .ok (.t (.int (mxOf mx k ns))) μ
  | none => .no
/-- sorted(x, reverse=True) -/
def srevD (fz : Bool) (d : D) : M D := fun μ => match (lstOf μ d).bind toIs with
  | some ns => mkL fz ((sortI ns).reverse.map fun n => D.t (.int n)) μ
  | none => match (lstOf μ d).bind toPrs with
    | some ps => mkL fz ((sortP ps).reverse.map fun p => D.t (.tup [.int p.1, .int p.2])) μ
    | none => .no
/-- the built-in type -/
def tyOf (μ : Mem) : D → Option Ty
  | .t .non => some .non
  | .t (.bl _) => some .bl
  | .t (.int _) => some .int
  | .t (.str _) => some .str
  | .t (.lst _) => some .lst
  | .t (.tup _) => some .tup
  | .t (.dct _) => some .dct
  | .t (.dcT _) => some .dct
  | .t (.scr _) => none
  | .tp _ => some .tup
  | .ref c => match μ[c]? with
    | some (.lst _) => some .lst
    | some (.dct _) => some .dct
    | some (.dcT _) => some .dct
    | _ => none
def isB : Ty → Ty → Bool
  | .non, .non => true
  | .bl, .bl => true
  | .bl, .int => true
  | .int, .int => true
  | .str, .str => true
  | .lst, .lst => true
  | .tup, .tup => true
  | .dct, .dct => true
  | _, _ => false
def isAny (n : Ty) : List Ty → Bool
  | [] => false
  | k :: ks => isB n k || isAny n ks
def isiD (ks : List Ty) (x : D) : M D := fun μ => match tyOf μ x with
  | some n => .ok (.t (.bl (isAny n ks))) μ
  | none => .no
def mthT : Mth → Ty
  | .append => .lst | .pop => .lst | .clear => .lst | .remove => .lst | .insert => .lst | .extend => .lst | .dget => .dct | .dclear => .dct | .dupd => .dct
def tyChk (n : Ty) (x : D) : M Unit := fun μ => if tyOf μ x = some n then .ok () μ else .no
def mthD (m : Mth) (o : D) (ds : List D) : M D := fun μ => match m, o, ds with
  | .append, .ref c, [d] => match μ[c]? with
    | some (.lst xs) => if xs.length < sizeLine then .ok (.t .non) (μ.set c (.lst (xs ++ [d]))) else .no
    | _ => .no
  | .pop, .ref c, [] => match μ[c]? with
    | some (.lst xs) => match xs[xs.length - 1]? with
      | some d => .ok d (μ.set c (.lst xs.dropLast))
      | none => .no
    | _ => .no
  | .clear, .ref c, [] => match μ[c]? with
    | some (.lst _) => .ok (.t .non) (μ.set c (.lst []))
    | _ => .no
  | .remove, .ref c, [.t (.int i)] => match μ[c]? with
    | some (.lst xs) => match toIs xs with
      | some ns => if i ∈ ns then .ok (.t .non) (μ.set c (.lst ((ns.erase i).map fun n => D.t (.int n)))) else .no
      | none => .no
    | _ => .no
  | .remove, .ref c, [.t (.tup [.int i, .int j])] => match μ[c]? with
    | some (.lst xs) => match toPrs xs with
      | some ps => match ps.findIdx? (fun p => decide (p = (i, j))) with
        | some n => .ok (.t .non) (μ.set c (.lst (xs.eraseIdx n)))
        | none => .no
      | none => .no
    | _ => .no
  | .insert, .ref c, [.t (.int i), d] => match μ[c]? with
    | some (.lst xs) => if xs.length < sizeLine ∧ 0 ≤ i ∧ i < 4611686018427387904 then .ok (.t .non) (μ.set c (.lst (xs.take i.toNat ++ [d] ++ xs.drop i.toNat))) else .no
    | _ => .no
  | .extend, .ref c, [d] => match μ[c]?, lstN μ d with
    | some (.lst xs), some ds => if xs.length + ds.length ≤ sizeLine then .ok (.t .non) (μ.set c (.lst (xs ++ ds))) else .no
    | _, _ => .no
  | .dget, o, [y, z] => match dctOf μ o with
    | some kds => match keyOf y with
      | some k => .ok ((getK kds k).getD z) μ
      | none => .no
    | none => match dctTOf μ o with
      | some kds => match keyTOf y with
        | some k => .ok ((getK kds k).getD z) μ
        | none => .no
      | none => .no
  | .dclear, .ref c, [] => match μ[c]? with
    | some (.dct _) => .ok (.t .non) (μ.set c (.dct []))
    | _ => .no
  | .dupd, .ref c, [d] => match μ[c]?, d with
    | some (.dct kds), .t (.dct more) => if kds.length + more.length ≤ sizeLine then .ok (.t .non) (μ.set c (.dct (mergeD kds (more.map fun p => (p.1, D.t p.2))))) else .no
    | _, _ => .no
  | _, _, _ => .no
/-- o[i] = d -/
def setD (o i d : D) : Mem → Option Mem := fun μ => match o with
  | .ref c => match μ[c]? with
    | some (.lst xs) => match toI i with
      | some n => match idx xs.length n with
        | some j => some (μ.set c (.lst (xs.set j d)))
        | none => none
      | none => none
    | some (.dct kds) => match keyOf i with
      | some k => if kds.length < sizeLine then some (μ.set c (.dct (putK kds k d))) else none
      | none => none
    | some (.dcT kds) => match keyTOf i with
      | some k => if kds.length < sizeLine then some (μ.set c (.dcT (putK kds k d))) else none
      | none => none
    | _ => none
  | _ => none

/-! ### targets -/
/-- a frozen list's items -/
def lstT : D → Option (List D)
  | .t (.lst ts) => some (ts.map D.t)
  | _ => none
mutual
def asgT : Tg → D → Envv → Option Envv
  | .nm i, d, env => some (env.set i (some d))
  | .tp ts, d, env => match tupOf d with
    | some ds => asgTs ts ds env
    | none => match lstT d with
      | some ds => asgTs ts ds env
      | none => none
def asgTs : List Tg → List D → Envv → Option Envv
  | [], [], env => some env
  | t :: ts, d :: ds, env => match asgT t d env with
    | some env' => asgTs ts ds env'
    | none => none
  | _, _, _ => none
end
def wipeD (env : Envv) : List Nat → Envv
  | [] => env
  | v :: vs => (wipeD env vs).set v none

/-! ### what is walked -/
abbrev Watch := List (Nat × List D)
def WOk (μ : Mem) (w : Watch) : Prop := ∀ p ∈ w, μ[p.1]? = some (.lst p.2)
def watchL : D → List D → Watch
  | .ref c, ds => [(c, ds)]
  | _, _ => []
def noEx {α : Type} (r : R α) : R α := match r with
  | .ok a μ => .ok a μ
  | _ => .no
open Classical in
noncomputable def compLoop (tg : Tg) (env : Envv) (c : Envv → M Bool) (el : Envv → M D) (w : Watch) : List D → List D → M (List D)
  | [], acc => fun μ => if WOk μ w then .ok acc μ else .no
  | d :: ds, acc => fun μ => if WOk μ w then
      match asgT tg d env with
      | some env' => bnd (fun μ => noEx (c env' μ)) (fun b => if b = true then bnd (fun μ => noEx (el env' μ)) (fun x => compLoop tg env c el w ds (acc ++ [x])) else compLoop tg env c el w ds acc) μ
      | none => .no
    else .no
def toB (d : D) : M Bool := fun μ => match d with
  | .t (.bl b) => .ok b μ
  | _ => .no
def lookF (fs : List (Str × T)) (f : Str) : Option T := (fs.find? fun p => decide (p.1 = f)).map (·.2)
abbrev Orac := Nat → List D → M D
def enumD : Nat → List D → List D
  | _, [] => []
  | k, .t x :: ds => .t (.tup [.int k, x]) :: enumD (k + 1) ds
  | k, d :: ds => .tp [.t (.int k), d] :: enumD (k + 1) ds
def pairD : D → D → D
  | .t x, .t y => .t (.tup [x, y])
  | d, e => .tp [d, e]
def rngD (lo : Int) : Nat → List D
  | 0 => []
  | n + 1 => .t (.int lo) :: rngD (lo + 1) n
def inRg (i : Int) : Prop := -(2 ^ 62) ≤ i ∧ i < 2 ^ 62
open Classical in
noncomputable def rngM0 (j : Int) : M (List D × Watch) := fun μ => if inRg j then .ok (rngD 0 j.toNat, []) μ else .no
open Classical in
noncomputable def rngM (i j : Int) : M (List D × Watch) := fun μ => if inRg i ∧ inRg j then .ok (rngD i (j - i).toNat, []) μ else .no
mutual
noncomputable def evE (F : Orac) : E → Envv → M D
  | .var i, env => fun μ => match env[i]? with
    | some (some d) => .ok d μ
    | _ => .no
  | .cst t, _ => pur (.t t)
  | .glo _ t, _ => pur (.t t)
  | .bin op a b, env => bnd (evE F a env) fun x => bnd (evE F b env) fun y => binD op x y
  | .neg a, env => bnd (evE F a env) fun x => fun μ => match toI x with
    | some i => .ok (.t (.int (-i))) μ
    | none => .no
  | .cmp op a b, env => bnd (evE F a env) fun x => bnd (evE F b env) fun y => cmpD op x y
  | .chn p q a b c, env => bnd (evE F a env) fun x => bnd (evE F b env) fun y => bnd (cmpD p x y) fun r => bnd (toB r) fun k => if k = true then bnd (evE F c env) fun z => cmpD q y z else pur (.t (.bl false))
  | .and a b, env => bnd (evE F a env) fun x => bnd (toB x) fun k => if k = true then evE F b env else pur (.t (.bl false))
  | .or a b, env => bnd (evE F a env) fun x => bnd (toB x) fun k => if k = true then pur (.t (.bl true)) else evE F b env
  | .not a, env => bnd (evE F a env) fun x => bnd (toB x) fun k => pur (.t (.bl (!k)))
  | .ite c a b, env => bnd (evE F c env) fun x => bnd (toB x) fun k => if k = true then evE F a env else evE F b env
  | .tup es, env => bnd (evEs F es env) mkTup
  | .lst fz es, env => bnd (evEs F es env) (mkL fz)
  | .dnew kt, _ => fun μ => .ok (.ref μ.length) (μ ++ [if kt then .dcT [] else .dct []])
  | .dd1 a b, env => bnd (evE F a env) fun x => bnd (evE F b env) fun y => fun μ => match keyOf x with
    | some k => .ok (.ref μ.length) (μ ++ [.dct [(k, y)]])
    | none => .no
  | .ix a b, env => bnd (evE F a env) fun x => bnd (evE F b env) fun y => ixD x y
  | .slc fz a lo hi, env => bnd (evE F a env) fun x => bnd (evEo F lo env) fun l => bnd (evEo F hi env) fun h => slcD fz x l h
  | .call f es, env => bnd (evEs F es env) (F f)
  | .bfn fz b es, env => bnd (evEs F es env) (bfnD fz b)
  | .srev fz a, env => bnd (evE F a env) (srevD fz)
  | .sset fz a, env => bnd (evE F a env) (ssetD fz)
  | .mxd mx a k, env => bnd (evE F a env) (mxD mx k)
  | .isi a ks, env => bnd (evE F a env) (isiD ks)
  | .mth m o es, env => bnd (evE F o env) fun x => bnd (tyChk (mthT m) x) fun _ => bnd (evEs F es env) (mthD m x)
  | .new _ fs es, env => bnd (evEs F es env) fun ds => fun μ => match toTs ds with
    | some ts => if ts.length = fs.length then .ok (.ref μ.length) (μ ++ [.exn (fs.zip ts).reverse]) else .no
    | none => .no
  | .fldv i f, env => fun μ => match env[i]? with
    | some (some (.ref c)) => match μ[c]? with
      | some (.exn fts) => match lookF fts f with
        | some t => .ok (.t t) μ
        | none => .no
      | _ => .no
    | _ => .no
  | .comp fz own tg it ifs e, env => bnd (evI F it env) fun p => fun μ =>
      if p.1.length ≤ sizeLine then bnd (compLoop tg (wipeD env (own.map (·.2))) (fun env => evC F ifs env) (fun env => evE F e env) p.2 p.1 []) (mkL fz) μ else .no
noncomputable def evEs (F : Orac) : Es → Envv → M (List D)
  | .nil, _ => pur []
  | .cons e es, env => bnd (evE F e env) fun d => bnd (evEs F es env) fun ds => pur (d :: ds)
noncomputable def evEo (F : Orac) : Eo → Envv → M (Option Int)
  | .none, _ => pur none
  | .some e, env => bnd (evE F e env) fun x => fun μ => match toI x with
    | some i => .ok (some i) μ
    | none => .no
/-- a comprehension's tests: none or one -/
noncomputable def evC (F : Orac) : Es → Envv → M Bool
  | .nil, _ => pur true
  | .cons e .nil, env => bnd (evE F e env) toB
  | _, _ => stuck
noncomputable def evI (F : Orac) : It → Envv → M (List D × Watch)
  | .val e, env => bnd (evE F e env) fun x => fun μ => match lstOf μ x with
    | some ds => .ok (ds, watchL x ds) μ
    | none => match tupOf x with
      | some ds => .ok (ds, []) μ
      | none => .no
  | .rng1 a, env => bnd (evE F a env) fun x => fun μ => match toI x with
    | some j => rngM0 j μ
    | none => .no
  | .rng2 a b, env => bnd (evE F a env) fun x => bnd (evE F b env) fun y => fun μ => match toI x, toI y with
    | some i, some j => rngM i j μ
    | _, _ => .no
  | .enm e, env => bnd (evE F e env) fun x => fun μ => match lstOf μ x with
    | some ds => .ok (enumD 0 ds, watchL x ds) μ
    | none => .no
  | .zip a b, env => bnd (evE F a env) fun x => bnd (evE F b env) fun y => fun μ => match lstOf μ x, lstOf μ y with
    | some ds, some es => .ok (List.zipWith pairD ds es, watchL x ds ++ watchL y es) μ
    | _, _ => match tupOf x, tupOf y with
      | some ds, some es => .ok (List.zipWith pairD ds es, []) μ
      | _, _ => .no
  | .rev e, env => bnd (evE F e env) fun x => fun μ => match lstOf μ x with
    | some ds => .ok (ds.reverse, watchL x ds) μ
    | none => .no
end

/-! ### statements -/
inductive Out where
  | nx (env : Envv) | rt (d : D) | bk (env : Envv) | ct (env : Envv) | ex (x : Exn) (env : Envv)
abbrev MO := Mem → Option (Out × Mem)
def lift {α : Type} (x : M α) (env : Envv) (f : α → MO) : MO := fun μ => match x μ with
  | .ok a μ' => f a μ'
  | .ex e μ' => some (.ex e env, μ')
  | .no => none
def outO (o : Out) : MO := fun μ => some (o, μ)
/-- what follows a block's first statement -/
def andThen (x : MO) (f : Envv → MO) : MO := fun μ => match x μ with
  | some (.nx env, μ') => f env μ'
  | some (o, μ') => some (o, μ')
  | none => none
open Classical in
noncomputable def forLoop (tg : Tg) (b : Envv → MO) (w : Watch) : List D → Envv → MO
  | [], env => fun μ => if WOk μ w then some (.nx env, μ) else none
  | d :: ds, env => fun μ => if WOk μ w then
      match asgT tg d env with
      | some env' => match b env' μ with
        | some (.nx env'', μ') => forLoop tg b w ds env'' μ'
        | some (.ct env'', μ') => forLoop tg b w ds env'' μ'
        | some (.bk env'', μ') => some (.nx env'', μ')
        | some (.rt d, μ') => some (.rt d, μ')
        | some (.ex x env'', μ') => some (.ex x env'', μ')
        | none => none
      | none => none
    else none
def whlLoop (c : Envv → M Bool) (b : Envv → MO) : Nat → Envv → MO
  | 0, _ => fun _ => none
  | n + 1, env => lift (c env) env fun k => if k = true then fun μ => match b env μ with
        | some (.nx env'', μ') => whlLoop c b n env'' μ'
        | some (.ct env'', μ') => whlLoop c b n env'' μ'
        | some (.bk env'', μ') => some (.nx env'', μ')
        | some (.rt d, μ') => some (.rt d, μ')
        | some (.ex x env'', μ') => some (.ex x env'', μ')
        | none => none
      else outO (.nx env)
/-! ### except suites -/
def lookT (tab : List (Str × Bool)) (c : Str) : Option Bool := (tab.find? fun p => decide (p.1 = c)).map (·.2)
mutual
def evH (x : Exn) : HE → Envv → M D
  | .var j, env => fun μ => match env[j]? with
    | some (some d) => .ok d μ
    | _ => .no
  | .cst t, _ => pur (.t t)
  | .fld f cs, _ => fun μ => if x.cls ∈ cs then match lookF x.fs f with
      | some t => .ok (.t t) μ
      | none => .no
    else .no
  | .isi _ tab, _ => fun μ => match lookT tab x.cls with
    | some b => .ok (.t (.bl b)) μ
    | none => .no
  | .oth _ tab, _ => fun μ => match lookT tab x.cls with
    | some b => .ok (.t (.bl b)) μ
    | none => .no
  | .cmp op a b, env => bnd (evH x a env) fun u => bnd (evH x b env) fun v => cmpD op u v
  | .and a b, env => bnd (evH x a env) fun u => bnd (toB u) fun k => if k = true then evH x b env else pur (.t (.bl false))
  | .or a b, env => bnd (evH x a env) fun u => bnd (toB u) fun k => if k = true then pur (.t (.bl true)) else evH x b env
  | .or3 a b c, env => bnd (evH x a env) fun u => bnd (toB u) fun k => if k = true then pur (.t (.bl true)) else bnd (evH x b env) fun u => bnd (toB u) fun k => if k = true then pur (.t (.bl true)) else evH x c env
  | .not a, env => bnd (evH x a env) fun u => bnd (toB u) fun k => pur (.t (.bl (!k)))
  | .tup es, env => bnd (evHs x es env) mkTup
  | .lst es, env => bnd (evHs x es env) (mkL true)
def evHs (x : Exn) : HEs → Envv → M (List D)
  | .nil, _ => pur []
  | .cons e es, env => bnd (evH x e env) fun d => bnd (evHs x es env) fun ds => pur (d :: ds)
end
def liftH {α : Type} (x : M α) (f : α → MO) : MO := fun μ => match x μ with
  | .ok a μ' => f a μ'
  | _ => none
mutual
def evHS (x : Exn) : HS → Envv → MO
  | .ret e, env => liftH (evH x e env) fun d => outO (.rt d)
  | .asg j e, env => liftH (evH x e env) fun d => outO (.nx (env.set j (some d)))
  | .ife c a b, env => liftH (bnd (evH x c env) toB) fun k => if k = true then evHSs x a env else evHSs x b env
  | .pss, env => outO (.nx env)
  | .unk, _ => fun _ => none
def evHSs (x : Exn) : HSs → Envv → MO
  | .nil, env => outO (.nx env)
  | .cons s ss, env => andThen (evHS x s env) fun env => evHSs x ss env
end
/-- the clause's name is unbound behind the suite -/
def unbE (i : Option Nat) (env : Envv) : Envv := match i with
  | some j => env.set j none
  | none => env
def okI (i : Option Nat) (env : Envv) : Bool := match i with
  | some j => decide (j < env.length)
  | none => true
def unbO (i : Option Nat) : Out → Out
  | .nx env => .nx (unbE i env)
  | .rt d => .rt d
  | .bk env => .bk (unbE i env)
  | .ct env => .ct (unbE i env)
  | .ex x env => .ex x (unbE i env)
def tryO (tab : List (Str × Bool)) (i : Option Nat) (g : Exn → Envv → MO) : Option (Out × Mem) → Option (Out × Mem)
  | some (.ex x env, μ) => match lookT tab x.cls with
    | some true => if okI i env = true then match g x (unbE i env) μ with
        | some (o, μ') => some (unbO i o, μ')
        | none => none
      else none
    | some false => some (.ex x env, μ)
    | none => none
  | r => r
/-- behind a try whose suite raises c2 from None -/
def tryR (tab : List (Str × Bool)) (c2 : Str) : Option (Out × Mem) → Option (Out × Mem)
  | some (.ex x env, μ) => match lookT tab x.cls with
    | some true => some (.ex ⟨c2, []⟩ env, μ)
    | some false => some (.ex x env, μ)
    | none => none
  | r => r
mutual
noncomputable def evS (F : Orac) : S → Envv → MO
  | .asg tg e, env => lift (evE F e env) env fun d => fun μ => match asgT tg d env with
    | some env' => some (.nx env', μ)
    | none => none
  | .setx o i e, env => lift (evE F e env) env fun d => lift (evE F o env) env fun x => lift (evE F i env) env fun y => fun μ => match setD x y d μ with
    | some μ' => some (.nx env, μ')
    | none => none
  | .xpr e, env => lift (evE F e env) env fun _ => outO (.nx env)
  | .ret e, env => lift (evE F e env) env fun d => outO (.rt d)
  | .retN, _ => outO (.rt (.t .non))
  | .ife c a b, env => lift (bnd (evE F c env) toB) env fun k => if k = true then evSs F a env else evSs F b env
  | .for tg it b, env => lift (evI F it env) env fun p => forLoop tg (fun env => evSs F b env) p.2 p.1 env
  | .whl n c b, env => whlLoop (fun env => bnd (evE F c env) toB) (fun env => evSs F b env) n env
  | .brk, env => outO (.bk env)
  | .cnt, env => outO (.ct env)
  | .pss, env => outO (.nx env)
  | .unk, _ => fun _ => none
  | .rse c fs es, env => lift (evEs F es env) env fun ds => fun μ => match toTs ds with
    | some ts => if ts.length = fs.length then some (.ex ⟨c, (fs.zip ts).reverse⟩ env, μ) else none
    | none => none
  | .rsm c _, env => outO (.ex ⟨c, []⟩ env)
  | .tryr e _ tab c2 _, env => fun μ => tryR tab c2 (lift (evE F e env) env (fun _ => outO (.nx env)) μ)
  | .tryx b _ tab i h, env => fun μ => tryO tab i (fun x env => evHSs x h env) (evSs F b env μ)
noncomputable def evSs (F : Orac) : Ss → Envv → MO
  | .nil, env => outO (.nx env)
  | .cons s ss, env => andThen (evS F s env) fun env => evSs F ss env
end

/-! ### defs -/
inductive Md where | frz | cell | keep
  deriving DecidableEq
structure Def where
  ar : Nat
  n : Nat
  md : Md
  body : Ss
/-- all that is in it frozen -/
def frzD (μ : Mem) (n : Nat) : Nat → D → Option T
  | 0, d => toT d
  | k + 1, d => match d with
    | .t x => some x
    | .tp ds => (ds.mapM (frzD μ n k)).map T.tup
    | .ref c => if n ≤ c then match μ[c]? with
        | some (.lst ds) => (ds.mapM (frzD μ n k)).map T.lst
        | some (.dct kds) => (kds.mapM fun p => (frzD μ n k p.2).map fun x => (p.1, x)).map T.dct
        | some (.dcT kds) => (kds.mapM fun p => (frzD μ n k p.2).map fun x => (p.1, x)).map T.dcT
        | _ => none
      else none
def isT : D → Bool
  | .t _ => true
  | _ => false
def cellT : Cell → Bool
  | .dead => true
  | .lst ds => ds.all isT
  | .dct kds => kds.all fun p => isT p.2
  | .dcT kds => kds.all fun p => isT p.2
  | .exn _ => true
/-- the caller's cells stand as they did, or without cells in them -/
def OkBack (μ0 μ : Mem) : Prop := μ0.length ≤ μ.length ∧ ∀ c, c < μ0.length → μ[c]? = μ0[c]? ∨ ∃ cl, μ[c]? = some cl ∧ cellT cl = true
open Classical in
/-- back to the caller's cells: n of them stood -/
noncomputable def leave (md : Md) (μ0 : Mem) (d : D) (μ : Mem) : R D :=
  if OkBack μ0 μ then
    match md with
    | .frz => match frzD μ μ0.length 4 d with
      | some t => .ok (.t t) (μ.take μ0.length)
      | none => .no
    | .cell => match d with
      | .ref c => if μ0.length ≤ c then match μ[c]? with
          | some cl => if cellT cl then .ok (.ref μ0.length) (μ.take μ0.length ++ [cl]) else .no
          | none => .no
        else .no
      | _ => .no
    | .keep => .ok d μ
  else .no
open Classical in
noncomputable def leaveX (μ0 : Mem) (x : Exn) (μ : Mem) : R D :=
  if OkBack μ0 μ then .ex x (μ.take μ0.length) else .no
noncomputable def callI (defs : Nat → Option Def) : Nat → Orac
  | 0, _, _ => stuck
  | k + 1, f, ds => fun μ => match defs f with
    | none => .no
    | some d => if ds.length = d.ar then
        match evSs (callI defs k) d.body (ds.map some ++ List.replicate (d.n - d.ar) none) μ with
        | some (.rt x, μ') => leave d.md μ x μ'
        | some (.nx _, μ') => leave d.md μ (.t .non) μ'
        | some (.ex x _, μ') => leaveX μ x μ'
        | _ => .no
      else .no
end MI
/-! MIE: rules for exceptions that the hand layer has not. -/
namespace MI
open PySem PySem.Spec PyProof.Rows L2
/-- C(e, ..), C's __init__ walked as a def; its context is None -/
theorem pmk_new {X : Cx} {CX : CXT} {nm : Str} {C fI : Addr} {j : Nat} {fd : FuncData} {prs : List Str} {sp : Sp} {e1 : Expr} {es1 : List Expr} {t1 : TA} {q1 q2 : Pos} (TC : OexC X.K C)
    (hI : PySem.W.findIn X.K (.ref C) "__init__" = some (some (.ref fI))) (hT : PySem.W.typeIn X.K (.ref fI) = some (.type "function")) (FI : FnOk X.prog X.w X.K X.mg X.base CX j fI fd prs sp)
    (rm : Room (j + 1) X.A) (bd : Binds X.K fd prs []) (ps0 : Passes CX X (fun _ _ _ => False)) (gl : Gl X nm) (mgx : X.mg nm = some (.ref C)) (pa : PA X (e1 :: es1) t1) (dbg : (nm == ("__debug__" : Str)) = false)
    (st1 : starEach (e1 :: es1) X.env = (false, eval e1 X.env) :: starEach es1 X.env) (st2 : (backTo q2 (starEach es1 X.env)).any (·.1) = false) :
    L2N.PMk X (.Call (.Name nm q1) (e1 :: es1) [] q2) (tMkO C sp [] t1) := by
  intro pns s0 σ0 Hh Qx Iv hh
  have TC' := TC.cls
  obtain ⟨a1, a2, a3, a4, bmv, a6, a7, a8, a9, a10, a11, a12, a13, a14, a15, lkC, rve⟩ := TC'
  refine wpAny_Call_Name_kw (ld_glob Iv gl mgx ?_ dbg)
  refine PySem.W.callWith_K (h₀ := X.base) Iv.ok.mod.kin TC.kC (thn (pa.run q2 pns s0 σ0 Hh _ Iv hh) fun wv sA ⟨xs, HA, IA, rA, hzA, qA⟩ => ⟨IA.kIn, ?_⟩) st1 st2
  show wpAny _ _ (call (.ref C) wv) _ _ _
  obtain ⟨g0, g1, g2, g3, g4⟩ := sA
  let a0 : Addr := g0.objs.size + 1
  have big : g0.objs.size ≤ a0 := Nat.le_succ _
  have free : HA a0 = none := IA.hok.fresh big
  have hsp := qA a0 free
  rw [List.append_nil] at hsp
  have keep : ∀ c o, g0.get? c = some o → ((g0.push (PySem.W.kdv_tup wv)).push (PySem.HandSPX.excO C g0.objs.size)).get? c = some o := fun c o z =>
    Heap.get?_push_of_some _ (Heap.get?_push_of_some _ z)
  have there : ((g0.push (PySem.W.kdv_tup wv)).push (PySem.HandSPX.excO C g0.objs.size)).get? (g0.objs.size + 1) = some (PySem.HandSPX.excO C g0.objs.size) := by heap_get
  have IB : Inv X pns σ0 (upd HA a0 (exo a0 C none)) ⟨(g0.push (PySem.W.kdv_tup wv)).push (PySem.HandSPX.excO C g0.objs.size), g1, g2, g3, g4⟩ :=
    IA.laid (t' := g3) (a := a0) (o := exo a0 C none) (h' := (g0.push (PySem.W.kdv_tup wv)).push (PySem.HandSPX.excO C g0.objs.size)) keep big (exo_ok there)
  have vals : Vals (V.ref a0 :: xs) (Value.ref a0 :: wv) := .cons rfl rA
  have len1 : (Value.ref a0 :: wv ++ []).length = prs.length := by
    have z := vals.length
    rw [FI.len _ _ _ _ hsp] at z
    rw [List.append_nil]
    exact z.symm
  have few : wv.length ≤ sizeLine := by
    rw [← Paired.length rA, sizeLine_eq]
    omega
  have bnd := bd _ (Value.ref a0 :: wv) IB.kIn len1
  rw [List.append_nil] at bnd
  have run := FI.run _ X.stack _ _ ⟨Value.ref a0 :: wv, []⟩ (Value.ref a0 :: wv) _ _ (fun _ _ _ => False) (rm.make C wv []) (IB.env0.make C wv []) bnd vals hsp
  refine wpAny_call (PySem.HandSPX.call_own F.excBase_ValueError (fun Y => PySem.HandSPX.refsVE_contains Y bmv rve) (IA.kIn _ _ lkC) (PySem.W.looks_findIn IA.kIn hI) (fun me => PySem.W.bind_fn IA.kIn me hT) few
    (codeAny_mono run fun res sB hB => ?_))
  cases res with
  | error er => exact ps0 pns σ0 _ _ er sB IB hB
  | ok fl =>
    cases fl with
    | next => exact False.elim hB
    | brk => exact False.elim hB
    | cont => exact False.elim hB
    | ret u =>
      obtain ⟨v, HB, osB, bareB, unB, hokB, rv, ev, d, fs, ea, ed, hd1, qB⟩ := hB
      subst ev
      obtain ⟨k0, k1, k2, k3, k4⟩ := sB
      obtain ⟨t0, G, J, kG, ge, hoe, na⟩ := mk_end0 (d2 := k2) (t2 := k3) IA big keep unB hokB osB bareB ea ed hd1
      exact ⟨rv, a0, _, _, ⟨G, k1, k2, k3, k4⟩, _, .ref C, some d, rfl, J, kG, ge, hoe, ⟨rfl, rfl, fun vs hv => (by cases hv; rfl)⟩, rfl, rfl, na, rfl, bareB, raises_own TC.exC TC.tyC, qB⟩
/-- what __init__ does: the fields fs, one after the other -/
def spIni (K : PySem.W.Frag) (C : Addr) (fs : List Str) : Sp := fun vs H Q _ => ∃ (a : Addr) (ys : List V), vs = .ref a :: ys ∧ ys.length = fs.length ∧ OexC K C ∧ (∀ f ∈ fs, PySem.W.findIn K (.ref C) f = some none) ∧ H a = some (exo a C none) ∧
  ∀ dx, H dx = none → dx ≠ a → Q .non (upd (upd H dx (exd dx (fs.zip ys).reverse)) a (exo a C (some dx)))
theorem len_ini {K : PySem.W.Frag} {C : Addr} {fs : List Str} {slf : Str} : ∀ vs H Q E, spIni K C fs vs H Q E → vs.length = (slf :: fs).length := fun vs H Q E ⟨a, ys, e, l, _⟩ => by rw [e, List.length_cons, List.length_cons, l]
section
variable {CX : CXT} {P : Program} {w : World} {K : PySem.W.Frag} {mg : Str → Option Value} {base : Heap} {fI C : Addr} {qual slf f1 f2 : Str} {scope : Scope} {kV doc pm cdv ct oc : Value} {an od : Option Addr} {osl : Array (Option Value)} {prm : Arguments}
/-- def __init__(self, f): self.f = f -/
theorem fn_ini1 {p1 p2 p3 p4 : Pos} (lk : K.lookup fI = some ⟨oc, od, .func (PySem.W.fnOf "__init__" qual prm [.Assign [.Attribute (.Name slf p1) f1 p2] (.Name f1 p3) p4] scope .none kV doc pm an cdv ct), osl⟩) (hcd : PySem.W.codeIn K cdv qual = true)
    (S : FnScope [slf, f1] [slf, f1] scope) (v1 : Vis scope slf) (v2 : Vis scope f1) (d1 : (slf == ("__debug__" : Str)) = false) (d2 : (f1 == ("__debug__" : Str)) = false) (c1 : (slf == ("__classdict__" : Str)) = false) (c2 : (f1 == ("__classdict__" : Str)) = false) :
    FnOk P w K mg base CX 1 fI (PySem.W.fnOf "__init__" qual prm [.Assign [.Attribute (.Name slf p1) f1 p2] (.Name f1 p3) p4] scope .none kV doc pm an cdv ct) [slf, f1] (spIni K C [f1]) := by
  refine fn_of lk hcd S len_ini fun A outer s H vs Q E hr hsp => ?_
  obtain ⟨a, ys, rfl, hl, T, hno, ha, q⟩ := hsp
  obtain ⟨y, rfl⟩ : ∃ y, ys = [y] := by
    cases ys with
    | nil => simp at hl
    | cons y r =>
      cases r with
      | nil => exact ⟨y, rfl⟩
      | cons _ _ => simp at hl
  refine ⟨_, pss_cons (ps_ost (pe_var (i := 0) rfl v1 d1 c1) (pe_var (i := 1) rfl v2 d2 c2)) pss_nil, ?_⟩
  refine ⟨y, rfl, .ref a, rfl, a, C, rfl, T, hno f1 (by simp), .inl ⟨ha, fun dx hn hne => ?_⟩⟩
  exact q dx hn hne
/-- def __init__(self, f, g): self.f = f; self.g = g -/
theorem fn_ini2 {p1 p2 p3 p4 r1 r2 r3 r4 : Pos} (lk : K.lookup fI = some ⟨oc, od, .func (PySem.W.fnOf "__init__" qual prm [.Assign [.Attribute (.Name slf p1) f1 p2] (.Name f1 p3) p4, .Assign [.Attribute (.Name slf r1) f2 r2] (.Name f2 r3) r4] scope .none kV doc pm an cdv ct), osl⟩)
    (hcd : PySem.W.codeIn K cdv qual = true) (S : FnScope [slf, f1, f2] [slf, f1, f2] scope) (v1 : Vis scope slf) (v2 : Vis scope f1) (v3 : Vis scope f2) (d1 : (slf == ("__debug__" : Str)) = false) (d2 : (f1 == ("__debug__" : Str)) = false) (d3 : (f2 == ("__debug__" : Str)) = false)
    (c1 : (slf == ("__classdict__" : Str)) = false) (c2 : (f1 == ("__classdict__" : Str)) = false) (c3 : (f2 == ("__classdict__" : Str)) = false) :
    FnOk P w K mg base CX 1 fI (PySem.W.fnOf "__init__" qual prm [.Assign [.Attribute (.Name slf p1) f1 p2] (.Name f1 p3) p4, .Assign [.Attribute (.Name slf r1) f2 r2] (.Name f2 r3) r4] scope .none kV doc pm an cdv ct) [slf, f1, f2] (spIni K C [f1, f2]) := by
  refine fn_of lk hcd S len_ini fun A outer s H vs Q E hr hsp => ?_
  obtain ⟨a, ys, rfl, hl, T, hno, ha, q⟩ := hsp
  obtain ⟨y, z, rfl⟩ : ∃ y z, ys = [y, z] := by
    match ys, hl with
    | [y, z], _ => exact ⟨y, z, rfl⟩
  refine ⟨_, pss_cons (ps_ost (pe_var (i := 0) rfl v1 d1 c1) (pe_var (i := 1) rfl v2 d2 c2)) (pss_cons (ps_ost (pe_var (i := 0) rfl v1 d1 c1) (pe_var (i := 2) rfl v3 d3 c3)) pss_nil), ?_⟩
  refine ⟨y, rfl, .ref a, rfl, a, C, rfl, T, hno f1 (by simp), .inl ⟨ha, fun dx hn hne => ?_⟩⟩
  refine ⟨z, rfl, .ref a, rfl, a, C, rfl, T, hno f2 (by simp), .inr ⟨dx, [(f1, y)], upd_same, ?_, by simp, ?_⟩⟩
  · rw [upd_ne hne, upd_same]
  · have e : upd (upd (upd H dx (exd dx [(f1, y)])) a (exo a C (some dx))) dx (exd dx [(f2, z), (f1, y)]) = upd (upd H dx (exd dx [(f2, z), (f1, y)])) a (exo a C (some dx)) := by
      funext b
      by_cases h1 : b = dx
      · subst h1
        rw [upd_same, upd_ne hne, upd_same]
      · by_cases h2 : b = a
        · subst h2
          rw [upd_ne h1, upd_same, upd_same]
        · rw [upd_ne h1, upd_ne h2, upd_ne h1, upd_ne h2, upd_ne h1]
    rw [e]
    exact q dx hn hne
end
/-- what a class says, of which an exception is asked -/
structure ClsF (K : PySem.W.Frag) (C : Addr) : Prop where
  ga : PySem.W.findIn K (.ref C) "__getattribute__" = some (some (.builtin "BaseException.__getattribute__"))
  gg : PySem.W.findIn K (.ref C) "__getattr__" = some none
  ex : PySem.W.subIn K (.ref C) (.type "BaseException") = some true
  hd : PySem.W.hasDictIn K C = true
  cl : PySem.W.isClsIn K C = true
  ca : PySem.W.findIn K (.ref C) "__class__" = some (some (.builtin "object.__class__"))
  cg : PySem.W.specialIn K (.builtin "object.__class__") "__get__" = some (some (.builtin "getset_descriptor.__get__"))
  ct : PySem.W.takesIn K (.builtin "object.__class__") = some true
  mo : PySem.W.mroIn K C (.type "object") = some true
/-- isinstance(e, c), e the caught exception, with or without a dict -/
def rIsX (K : PySem.W.Frag) (D a : Addr) (dd : Option Addr) : List V → Hp → VK → Prop := fun xs H Q => ∃ (c : V) (cv : Value) (b : Bool), xs = [.ref a, c] ∧ (∀ u, RelV c u → u = cv) ∧ PySem.W.kitOne K (.ref D) cv = some b ∧ (∀ d, dd = some d → ∃ fs, H d = some (.xd fs)) ∧ Q (.bl b) H
theorem call_isX {X : Cx} {a D : Addr} {dd : Option Addr} {oe : Obj} {pn : List (Addr × Obj)} (C : ClsF X.K D) (hz : Zc (.ref D) dd oe) (hf : ∃ vs, oe.data = .fields vs) : CallR (X.suite a ((a, oe) :: pn)) (.builtin "isinstance") (rIsX X.K D a dd) := by
  intro pins s σ H xs us Q I r h
  obtain ⟨c, cv, b, rfl, hcv, e, hdd, q⟩ := h
  obtain ⟨u1, u2, rfl, r1, r2⟩ := vals2 r
  obtain rfl : u1 = Value.ref a := r1
  obtain rfl := hcv _ r2
  obtain ⟨hget, _⟩ := I.pin (a, oe) (List.mem_append.mpr (.inl List.mem_cons_self))
  obtain ⟨vs, hv⟩ := hf
  obtain ⟨od, hod⟩ : ∃ od : Option Obj, PySem.W.InstAt s.heap a oe D od := by
    cases dd with
    | none =>
      obtain ⟨oc, ed, oda, osl⟩ := oe
      obtain ⟨h1, h2⟩ := hz
      dsimp only at h1 h2 hv
      subst h1 h2 hv
      exact ⟨none, hget, rfl, rfl, trivial⟩
    | some d =>
      obtain ⟨fs, hd⟩ := hdd d rfl
      obtain ⟨mA, hns, _⟩ := (show ObjOk X.prog X.w H s.heap d (.xd fs) from I.hok d _ hd)
      obtain ⟨od, ho, _⟩ := lookIn_ns hns
      exact ⟨some od, hget, hz.1, by unfold PySem.W.notCls; rw [hv] <;> rfl, by rw [hz.2]; exact ho⟩
  exact PySem.W.kia_one (PySem.W.kitx_exc C.cl C.ga C.gg C.ex C.ca C.cg C.ct C.mo) I.kIn hod e (fun z => nomatch z) fun tk => ⟨.bl b, H, I.kept (t' := tk) fun _ _ z => z, rfl, q⟩
/-! ### a def that is handed the handled exception -/
/-- only new cells -/
inductive Grw (H : Hp) : Hp → Prop where
  | refl : Grw H H
  | tup {H1 : Hp} {p : Addr} {cs : List V} : Grw H H1 → H1 p = none → Grw H (upd H1 p (.tup cs))
/-- the def f, handed the handled exception, of class C, tells b -/
structure FnZ (P : Program) (w : World) (K : PySem.W.Frag) (mg : Str → Option Value) (base : Heap) (l : Nat) (f : Addr) (fd : FuncData) (y : Str) (C : Addr) (b : Bool) : Prop where
  run : ∀ (A : Around) (outer : List Env) (s : Shared) (H : Hp) (args : Args) (p : Addr × Obj) (dd : Option Addr) (Q : VK), L2H.RoomH l A → A.handled = some (.ref p.1) → L2H.PinOk outer H s p → (∃ vs, p.2.data = .fields vs) → Zc (.ref C) dd p.2 → (∀ d, dd = some d → ∃ fs, H d = some (.xd fs)) →
    Env0 P w K mg base A outer s H → BindsTo s fd args [(y, .ref p.1)] → (∀ H', Grw H H' → Q (.bl b) H') →
    codeAny (model P w) A (.call (.ref f) args) (CR (fun _ _ _ _ _ _ => False) outer P w H s Q (fun _ _ _ => False)) s
/-- f(e), e of class c, tells b -/
def XfX (P : Program) (w : World) (K : PySem.W.Frag) (mg : Str → Option Value) (base : Heap) (f c : Str) (b : Bool) : Prop :=
  ∃ (a : Addr) (fd : FuncData) (y : Str) (C : Addr), mg f = some (.ref a) ∧ PySem.W.keepIn K (.ref a) = true ∧ Binds K fd [y] [] ∧ mg c = some (.ref C) ∧ FnZ P w K mg base 1 a fd y C b
/-- isinstance(e, (c1, ..)), e the caught exception -/
def rIsXT (K : PySem.W.Frag) (D a : Addr) (dd : Option Addr) : List V → Hp → VK → Prop := fun xs H Q => ∃ (tp : Addr) (cs : List V) (us : List Value) (b : Bool), xs = [.ref a, .ref tp] ∧ H tp = some (.tup cs) ∧ Paired ClsV cs us ∧ PySem.W.kitAny K (.ref D) us = some b ∧ (∀ d, dd = some d → ∃ fs, H d = some (.xd fs)) ∧ Q (.bl b) H
theorem call_isXT {X : Cx} {a D : Addr} {dd : Option Addr} {oe : Obj} {pn : List (Addr × Obj)} (C : ClsF X.K D) (hz : Zc (.ref D) dd oe) (hf : ∃ vs, oe.data = .fields vs) : CallR (X.suite a ((a, oe) :: pn)) (.builtin "isinstance") (rIsXT X.K D a dd) := by
  intro pins s σ H xs us Q I r h
  obtain ⟨tp, cs, ws, b, rfl, hT, hcv, e, hdd, q⟩ := h
  obtain ⟨u1, u2, rfl, r1, r2⟩ := vals2 r
  obtain rfl : u1 = Value.ref a := r1
  obtain rfl : u2 = Value.ref tp := r2
  obtain ⟨_, its, rv, o, h1, h2, n, h3⟩ := (show ObjOk X.prog X.w H s.heap tp (.tup cs) from I.hok tp _ hT)
  have e3 := ClsV.all hcv rv
  subst e3
  obtain ⟨oc, od1, dt, sl⟩ := o
  simp only at h2 h3
  subst h2 h3
  obtain ⟨hget, _⟩ := I.pin (a, oe) (List.mem_append.mpr (.inl List.mem_cons_self))
  obtain ⟨vs, hv⟩ := hf
  obtain ⟨od, hod⟩ : ∃ od : Option Obj, PySem.W.InstAt s.heap a oe D od := by
    cases dd with
    | none =>
      obtain ⟨oc, ed, oda, osl⟩ := oe
      obtain ⟨h1, h2⟩ := hz
      dsimp only at h1 h2 hv
      subst h1 h2 hv
      exact ⟨none, hget, rfl, rfl, trivial⟩
    | some d =>
      obtain ⟨fs, hd⟩ := hdd d rfl
      obtain ⟨mA, hns, _⟩ := (show ObjOk X.prog X.w H s.heap d (.xd fs) from I.hok d _ hd)
      obtain ⟨od, ho, _⟩ := lookIn_ns hns
      exact ⟨some od, hget, hz.1, by unfold PySem.W.notCls; rw [hv] <;> rfl, by rw [hz.2]; exact ho⟩
  exact PySem.W.kia_tup (PySem.W.kitx_exc C.cl C.ga C.gg C.ex C.ca C.cg C.ct C.mo) I.kIn hod h1 e (fun z => nomatch z) fun tk => ⟨.bl b, H, I.kept (t' := tk) fun _ _ z => z, rfl, q⟩
end MI
/-! MI2: contexts, and what a construct's reading follows from. -/
namespace MI
open PySem PySem.Spec PyProof.Rows L2

/-! ### small facts of representation -/
section
variable {K : PySem.W.Frag} {H H0 H' H0' : Hp} {m m' : List Addr} {μ : Mem}
theorem repT_ts : ∀ {ts : List T} {vs : List V}, repTs K H ts vs ↔ reps K H m (ts.map D.t) vs
  | [], _ => by simp only [repTs, reps, List.map_nil]
  | t :: ts, vs => by
    simp only [repTs, reps, List.map_cons, rep]
    constructor
    · rintro ⟨v, r, e, h1, h2⟩
      exact ⟨v, r, e, h1, repT_ts.mp h2⟩
    · rintro ⟨v, r, e, h1, h2⟩
      exact ⟨v, r, e, h1, repT_ts.mpr h2⟩
theorem toTs_map : ∀ {ds : List D} {ts : List T}, toTs ds = some ts → ds = ts.map D.t
  | [], ts, h => by
    simp only [toTs, Option.some.injEq] at h
    subst h; rfl
  | .t x :: ds, ts, h => by
    simp only [toTs, Option.map_eq_some_iff] at h
    obtain ⟨r, h1, h2⟩ := h
    subst h2
    rw [List.map_cons, ← toTs_map h1]
  | .ref _ :: ds, ts, h => by simp [toTs] at h
  | .tp _ :: ds, ts, h => by simp [toTs] at h
theorem toTs_of (ts : List T) : toTs (ts.map D.t) = some ts := by
  induction ts with
  | nil => rfl
  | cons t ts ih => simp [toTs, ih]
theorem reps_len : ∀ {ds : List D} {vs : List V}, reps K H m ds vs → ds.length = vs.length
  | [], _, h => by
    simp only [reps] at h
    subst h; rfl
  | d :: ds, _, h => by
    simp only [reps] at h
    obtain ⟨v, r, rfl, _, h2⟩ := h
    simp [reps_len h2]
theorem reps_get : ∀ {ds : List D} {vs : List V} {i : Nat} {d : D}, reps K H m ds vs → ds[i]? = some d → ∃ v, vs[i]? = some v ∧ rep K H m d v
  | [], _, _, _, _, e => by simp at e
  | x :: ds, _, 0, d, h, e => by
    simp only [reps] at h
    obtain ⟨v, r, rfl, h1, h2⟩ := h
    simp only [List.getElem?_cons_zero, Option.some.injEq] at e
    subst e
    exact ⟨v, rfl, h1⟩
  | x :: ds, _, i + 1, d, h, e => by
    simp only [reps] at h
    obtain ⟨v, r, rfl, h1, h2⟩ := h
    simp only [List.getElem?_cons_succ] at e ⊢
    exact reps_get h2 e
theorem reps_append : ∀ {ds es : List D} {vs ws : List V}, reps K H m ds vs → reps K H m es ws → reps K H m (ds ++ es) (vs ++ ws)
  | [], _, _, _, h, g => by
    simp only [reps] at h
    subst h; exact g
  | d :: ds, es, _, ws, h, g => by
    simp only [reps] at h
    obtain ⟨v, r, rfl, h1, h2⟩ := h
    simp only [List.cons_append, reps]
    exact ⟨v, r ++ ws, rfl, h1, reps_append h2 g⟩
theorem reps_drop : ∀ {ds : List D} {vs : List V} (n : Nat), reps K H m ds vs → reps K H m (ds.drop n) (vs.drop n)
  | _, _, 0, h => h
  | [], _, n + 1, h => by
    simp only [reps] at h
    subst h
    simp [reps]
  | d :: ds, _, n + 1, h => by
    simp only [reps] at h
    obtain ⟨v, r, rfl, h1, h2⟩ := h
    exact reps_drop n h2
theorem reps_take : ∀ {ds : List D} {vs : List V} (n : Nat), reps K H m ds vs → reps K H m (ds.take n) (vs.take n)
  | _, _, 0, h => by simp [reps]
  | [], _, n + 1, h => by
    simp only [reps] at h
    subst h
    simp [reps]
  | d :: ds, _, n + 1, h => by
    simp only [reps] at h
    obtain ⟨v, r, rfl, h1, h2⟩ := h
    simp only [List.take_succ_cons, reps]
    exact ⟨v, r.take n, rfl, h1, reps_take n h2⟩
theorem reps_set : ∀ {ds : List D} {vs : List V} (i : Nat) {d : D} {v : V}, reps K H m ds vs → rep K H m d v → reps K H m (ds.set i d) (vs.set i v)
  | [], _, i, _, _, h, _ => by
    simp only [reps] at h
    subst h
    simp [reps]
  | x :: ds, _, 0, d, v, h, g => by
    simp only [reps] at h
    obtain ⟨w, r, rfl, h1, h2⟩ := h
    simp only [List.set_cons_zero, reps]
    exact ⟨v, r, rfl, g, h2⟩
  | x :: ds, _, i + 1, d, v, h, g => by
    simp only [reps] at h
    obtain ⟨w, r, rfl, h1, h2⟩ := h
    simp only [List.set_cons_succ, reps]
    exact ⟨w, r.set i v, rfl, h1, reps_set i h2 g⟩
theorem reps_reverse : ∀ {ds : List D} {vs : List V}, reps K H m ds vs → reps K H m ds.reverse vs.reverse
  | [], _, h => by
    simp only [reps] at h
    subst h
    simp [reps]
  | d :: ds, _, h => by
    simp only [reps] at h
    obtain ⟨v, r, rfl, h1, h2⟩ := h
    simp only [List.reverse_cons]
    exact reps_append (reps_reverse h2) (by simp only [reps]; exact ⟨v, [], rfl, h1, rfl⟩)
theorem reps_ints : ∀ {ds : List D} {vs : List V} {ns : List Int}, reps K H m ds vs → toIs ds = some ns → vs = ns.map V.int
  | [], _, ns, h, e => by
    simp only [reps] at h
    simp only [toIs, Option.some.injEq] at e
    subst h; subst e; rfl
  | .t (.int i) :: ds, _, ns, h, e => by
    simp only [reps, rep, repT] at h
    obtain ⟨v, r, rfl, rfl, h2⟩ := h
    simp only [toIs, Option.map_eq_some_iff] at e
    obtain ⟨q, e1, e2⟩ := e
    subst e2
    rw [reps_ints h2 e1, List.map_cons]
  | .t .non :: ds, _, ns, h, e => by simp [toIs] at e
  | .t (.bl _) :: ds, _, ns, h, e => by simp [toIs] at e
  | .t (.str _) :: ds, _, ns, h, e => by simp [toIs] at e
  | .t (.lst _) :: ds, _, ns, h, e => by simp [toIs] at e
  | .t (.tup _) :: ds, _, ns, h, e => by simp [toIs] at e
  | .t (.dct _) :: ds, _, ns, h, e => by simp [toIs] at e
  | .t (.dcT _) :: ds, _, ns, h, e => by simp [toIs] at e
  | .t (.scr _) :: ds, _, ns, h, e => by simp [toIs] at e
  | .ref _ :: ds, _, ns, h, e => by simp [toIs] at e
  | .tp _ :: ds, _, ns, h, e => by simp [toIs] at e
theorem reps_bls : ∀ {ds : List D} {vs : List V} {ns : List Bool}, reps K H m ds vs → toBs ds = some ns → vs = ns.map V.bl
  | [], _, ns, h, e => by
    simp only [reps] at h
    simp only [toBs, Option.some.injEq] at e
    subst h; subst e; rfl
  | .t (.bl i) :: ds, _, ns, h, e => by
    simp only [reps, rep, repT] at h
    obtain ⟨v, r, rfl, rfl, h2⟩ := h
    simp only [toBs, Option.map_eq_some_iff] at e
    obtain ⟨q, e1, e2⟩ := e
    subst e2
    rw [reps_bls h2 e1, List.map_cons]
  | .t .non :: ds, _, ns, h, e => by simp [toBs] at e
  | .t (.int _) :: ds, _, ns, h, e => by simp [toBs] at e
  | .t (.str _) :: ds, _, ns, h, e => by simp [toBs] at e
  | .t (.lst _) :: ds, _, ns, h, e => by simp [toBs] at e
  | .t (.tup _) :: ds, _, ns, h, e => by simp [toBs] at e
  | .t (.dct _) :: ds, _, ns, h, e => by simp [toBs] at e
  | .t (.dcT _) :: ds, _, ns, h, e => by simp [toBs] at e
  | .t (.scr _) :: ds, _, ns, h, e => by simp [toBs] at e
  | .ref _ :: ds, _, ns, h, e => by simp [toBs] at e
  | .tp _ :: ds, _, ns, h, e => by simp [toBs] at e
theorem reps_of_ints : ∀ (ns : List Int), reps K H m (ns.map fun n => D.t (.int n)) (ns.map V.int)
  | [] => by simp [reps]
  | n :: ns => by
    simp only [List.map_cons, reps]
    exact ⟨_, _, rfl, by simp only [rep, repT], reps_of_ints ns⟩
theorem toI_some {d : D} {i : Int} (h : toI d = some i) : d = .t (.int i) := by
  unfold toI at h
  split at h
  · cases h; rfl
  · cases h

/-! ### what stands there -/
theorem RelM.ref (rm : RelM K H H0 m μ) {c : Nat} {a : Addr} {cl : Cell} (h1 : m[c]? = some a) (h2 : μ[c]? = some cl) : CellOk K H H0 m a cl := rm.cell c a cl h1 h2
theorem RelM.lst (rm : RelM K H H0 m μ) {d : D} {v : V} {ds : List D} (r : rep K H0 m d v) (h : lstOf μ d = some ds) : ∃ a vs, v = .ref a ∧ SqL K H a vs ∧ reps K H0 m ds vs := by
  unfold lstOf at h
  split at h
  · cases h
    simp only [rep, repT] at r
    obtain ⟨a, vs, e, h1, h2⟩ := r
    exact ⟨a, vs, e, .of (rm.same _ _ h1), repT_ts.mp h2⟩
  · cases h
    simp only [rep, repT] at r
    obtain ⟨a, e, h1⟩ := r
    exact ⟨a, _, e, rm.same.seq h1, reps_of_ints _⟩
  · rename_i c
    simp only [rep] at r
    obtain ⟨a, h1, e⟩ := r
    split at h
    · rename_i ds' h2
      cases h
      obtain ⟨_, vs, h3, h4⟩ := rm.ref h1 h2
      exact ⟨a, vs, e, .of h3, h4⟩
    · cases h
  · cases h
theorem RelM.lstN (rm : RelM K H H0 m μ) {d : D} {v : V} {ds : List D} (r : rep K H0 m d v) (h : lstN μ d = some ds) : ∃ a vs, v = .ref a ∧ H a = some (.lst vs) ∧ reps K H0 m ds vs := by
  unfold MI.lstN at h
  split at h
  · cases h
  · rename_i hn
    unfold lstOf at h
    split at h
    · cases h
      simp only [rep, repT] at r
      obtain ⟨a, vs, e, h1, h2⟩ := r
      exact ⟨a, vs, e, rm.same _ _ h1, repT_ts.mp h2⟩
    · exact absurd rfl (hn _)
    · rename_i c
      simp only [rep] at r
      obtain ⟨a, h1, e⟩ := r
      split at h
      · rename_i ds' h2
        cases h
        obtain ⟨_, vs, h3, h4⟩ := rm.ref h1 h2
        exact ⟨a, vs, e, h3, h4⟩
      · cases h
    · cases h
theorem RelM.tup (rm : RelM K H H0 m μ) {d : D} {v : V} {ds : List D} (r : rep K H0 m d v) (h : tupOf d = some ds) : ∃ a vs, v = .ref a ∧ H a = some (.tup vs) ∧ reps K H0 m ds vs := by
  unfold tupOf at h
  split at h
  · cases h
    simp only [rep, repT] at r
    obtain ⟨a, vs, e, h1, h2⟩ := r
    exact ⟨a, vs, e, rm.same _ _ h1, repT_ts.mp h2⟩
  · cases h
    simp only [rep] at r
    obtain ⟨a, vs, e, h1, h2⟩ := r
    exact ⟨a, vs, e, rm.same _ _ h1, h2⟩
  · cases h
theorem repK_map : ∀ {kts : List (Key × T)} {kvs : List (Key × V)}, repTK K H kts kvs → repK K H m (kts.map fun p => (p.1, D.t p.2)) kvs
  | [], _, h => by
    simp only [repTK] at h
    simpa only [List.map_nil, repK] using h
  | (k, t) :: r, _, h => by
    simp only [repTK] at h
    obtain ⟨v, q, e, h1, h2⟩ := h
    simp only [List.map_cons, repK, rep]
    exact ⟨v, q, e, h1, repK_map h2⟩
theorem repKT_map : ∀ {kts : List (List Key × T)} {kvs : List (List Key × V)}, repTKT K H kts kvs → repK K H m (kts.map fun p => (p.1, D.t p.2)) kvs
  | [], _, h => by
    simp only [repTKT] at h
    simpa only [List.map_nil, repK] using h
  | (k, t) :: r, _, h => by
    simp only [repTKT] at h
    obtain ⟨v, q, e, h1, h2⟩ := h
    simp only [List.map_cons, repK, rep]
    exact ⟨v, q, e, h1, repKT_map h2⟩
theorem RelM.dct (rm : RelM K H H0 m μ) {d : D} {v : V} {ds : List (Key × D)} (r : rep K H0 m d v) (h : dctOf μ d = some ds) : ∃ a kvs, v = .ref a ∧ H a = some (.dK kvs) ∧ repK K H0 m ds kvs := by
  unfold dctOf at h
  split at h
  · cases h
    simp only [rep, repT] at r
    obtain ⟨a, vs, e, h1, h2⟩ := r
    exact ⟨a, vs, e, rm.same _ _ h1, repK_map h2⟩
  · simp only [rep] at r
    obtain ⟨a, h1, e⟩ := r
    split at h
    · rename_i ds' h2
      cases h
      obtain ⟨_, vs, h3, h4⟩ := rm.ref h1 h2
      exact ⟨a, vs, e, h3, h4⟩
    · cases h
  · cases h
theorem RelM.dctT (rm : RelM K H H0 m μ) {d : D} {v : V} {ds : List (List Key × D)} (r : rep K H0 m d v) (h : dctTOf μ d = some ds) : ∃ a kvs, v = .ref a ∧ H a = some (.dT kvs) ∧ repK K H0 m ds kvs := by
  unfold dctTOf at h
  split at h
  · cases h
    simp only [rep, repT] at r
    obtain ⟨a, vs, e, h1, h2⟩ := r
    exact ⟨a, vs, e, rm.same _ _ h1, repKT_map h2⟩
  · simp only [rep] at r
    obtain ⟨a, h1, e⟩ := r
    split at h
    · rename_i ds' h2
      cases h
      obtain ⟨_, vs, h3, h4⟩ := rm.ref h1 h2
      exact ⟨a, vs, e, h3, h4⟩
    · cases h
  · cases h
theorem repK_get {κ : Type} [DecidableEq κ] : ∀ {kds : List (κ × D)} {kvs : List (κ × V)} {k : κ}, repK K H m kds kvs →
    (match getK kds k with | some d => ∃ v, valV kvs k = some v ∧ rep K H m d v | none => valV kvs k = none)
  | [], _, k, h => by
    simp only [repK] at h
    subst h
    rfl
  | (j, d) :: r, _, k, h => by
    simp only [repK] at h
    obtain ⟨v, q, rfl, h1, h2⟩ := h
    by_cases hk : j = k
    · have e : getK ((j, d) :: r) k = some d := by simp [getK, hk]
      rw [e, valV_pos (p := (j, v)) hk]
      exact ⟨v, rfl, h1⟩
    · have e : getK ((j, d) :: r) k = getK r k := by simp [getK, hk]
      rw [e, valV_neg (p := (j, v)) hk]
      exact repK_get h2
theorem repK_any {κ : Type} [DecidableEq κ] {k : κ} : ∀ {kds : List (κ × D)} {kvs : List (κ × V)}, repK K H m kds kvs → (kds.any fun kd => decide (kd.1 = k)) = (kvs.any fun kd => decide (kd.1 = k))
  | [], _, h => by
    simp only [repK] at h
    subst h
    rfl
  | (j, d) :: r, _, h => by
    simp only [repK] at h
    obtain ⟨v, q, rfl, h1, h2⟩ := h
    simp only [List.any_cons, repK_any h2]
theorem repK_append {κ : Type} : ∀ {kds kes : List (κ × D)} {kvs kws : List (κ × V)}, repK K H m kds kvs → repK K H m kes kws → repK K H m (kds ++ kes) (kvs ++ kws)
  | [], _, _, _, h, g => by
    simp only [repK] at h
    subst h
    exact g
  | (j, d) :: r, _, _, kws, h, g => by
    simp only [repK] at h
    obtain ⟨v, q, rfl, h1, h2⟩ := h
    simp only [List.cons_append, repK]
    exact ⟨v, q ++ kws, rfl, h1, repK_append h2 g⟩
theorem repK_subst {κ : Type} [DecidableEq κ] {k : κ} {d : D} {v : V} (g : rep K H m d v) : ∀ {kds : List (κ × D)} {kvs : List (κ × V)}, repK K H m kds kvs →
    repK K H m (kds.map (fun kd => if kd.1 = k then (kd.1, d) else kd)) (kvs.map (fun kd => if kd.1 = k then (kd.1, v) else kd))
  | [], _, h => by
    simp only [repK] at h
    subst h
    simp [repK]
  | (j, e) :: r, _, h => by
    simp only [repK] at h
    obtain ⟨w, q, rfl, h1, h2⟩ := h
    simp only [List.map_cons]
    by_cases hk : j = k
    · simp only [hk, if_true, repK]
      exact ⟨v, _, rfl, g, repK_subst g h2⟩
    · simp only [hk, if_false, repK]
      exact ⟨w, _, rfl, h1, repK_subst g h2⟩
theorem repK_put {κ : Type} [DecidableEq κ] {kds : List (κ × D)} {kvs : List (κ × V)} {k : κ} {d : D} {v : V} (h : repK K H m kds kvs) (g : rep K H m d v) : repK K H m (MI.putK kds k d) (L2.putK kvs k v) := by
  unfold MI.putK L2.putK
  rw [repK_any h]
  split
  · exact repK_subst g h
  · refine repK_append h ?_
    simp only [repK]
    exact ⟨v, [], rfl, g, rfl⟩
theorem repK_len {κ : Type} : ∀ {kds : List (κ × D)} {kvs : List (κ × V)}, repK K H m kds kvs → kds.length = kvs.length
  | [], _, h => by
    simp only [repK] at h
    subst h
    rfl
  | (j, d) :: r, _, h => by
    simp only [repK] at h
    obtain ⟨v, q, rfl, h1, h2⟩ := h
    simp [repK_len h2]
theorem repK_keys {κ : Type} : ∀ {kds : List (κ × D)} {kvs : List (κ × V)}, repK K H m kds kvs → kds.map (·.1) = kvs.map (·.1)
  | [], _, h => by
    simp only [repK] at h
    subst h
    rfl
  | (j, d) :: r, _, h => by
    simp only [repK] at h
    obtain ⟨v, q, rfl, h1, h2⟩ := h
    simp [repK_keys h2]

/-! ### new objects -/
theorem Same.upd {o : HO} {p : Addr} (h : H p = none) : Same H (upd H p o) := fun b x e => by
  rw [upd_ne (ne_of_none e h)]
  exact e
theorem Same.upd2 (s : Same H0 H) {o : HO} {p : Addr} (h : H p = none) : Same (L2.upd H0 p o) (L2.upd H p o) := fun b x e => by
  by_cases hb : b = p
  · subst hb
    rw [upd_same] at e ⊢
    exact e
  · rw [upd_ne hb] at e ⊢
    exact s b x e
theorem RelM.notin (rm : RelM K H H0 m μ) {p : Addr} (h : H p = none) : p ∉ m := fun hm => rm.ne p hm h
theorem CellOk.mono {a : Addr} {cl : Cell} (h : CellOk K H H0 m a cl) (s : Same H0 H0') (p : ∀ (c : Nat) (a : Addr), m[c]? = some a → m'[c]? = some a) (hH : ∀ o, H a = some o → H' a = some o) (h0 : H0 a = none → H0' a = none) : CellOk K H' H0' m' a cl := by
  cases cl with
  | dead => trivial
  | lst ds => obtain ⟨h1, vs, h2, h3⟩ := h; exact ⟨h0 h1, vs, hH _ h2, h3.mono s p⟩
  | dct ds => obtain ⟨h1, vs, h2, h3⟩ := h; exact ⟨h0 h1, vs, hH _ h2, h3.mono s p⟩
  | dcT ds => obtain ⟨h1, vs, h2, h3⟩ := h; exact ⟨h0 h1, vs, hH _ h2, h3.mono s p⟩
  | exn fts => obtain ⟨h1, C, dx, fvs, h2, h3, h4, h5, h6⟩ := h; exact ⟨h0 h1, C, dx, fvs, hH _ h2, s _ _ h3, repF.mono s h4, h5, h6⟩
/-- something new, not told -/
theorem RelM.newU (rm : RelM K H H0 m μ) {o : HO} {p : Addr} (h : H p = none) : RelM K (L2.upd H p o) H0 m μ := by
  refine ⟨fun b x e => Same.upd h b x (rm.same b x e), rm.len, rm.nd, fun a ha => ?_, fun c a cl h1 h2 => ?_⟩
  · by_cases e : a = p
    · subst e; rw [upd_same]; exact fun z => by cases z
    · rw [upd_ne e]; exact rm.ne a ha
  · exact (rm.cell c a cl h1 h2).mono (Same.refl _) (fun _ _ z => z) (fun o e => Same.upd h a o e) (fun z => z)
theorem Step.newU {o : HO} {p : Addr} (h : H p = none) : Step H H0 m (L2.upd H p o) H0 m :=
  ⟨Same.refl _, ⟨[], by simp⟩, fun _ h => .inl h, fun b o e _ => Same.upd h b o e, fun _ h => .inl h⟩
/-- something new and frozen -/
theorem RelM.newF (rm : RelM K H H0 m μ) {o : HO} {p : Addr} (h : H p = none) : RelM K (L2.upd H p o) (L2.upd H0 p o) m μ := by
  have h0 : H0 p = none := rm.same.free h
  refine ⟨Same.upd2 rm.same h, rm.len, rm.nd, (rm.newU h).ne, fun c a cl h1 h2 => ?_⟩
  have hp : a ≠ p := fun e => rm.notin h (by rw [← e]; exact List.mem_of_getElem? h1)
  exact (rm.cell c a cl h1 h2).mono (Same.upd h0) (fun _ _ z => z) (fun o e => Same.upd h a o e) (fun z => by rw [upd_ne hp]; exact z)
theorem Step.newF (s : Same H0 H) {o : HO} {p : Addr} (h : H p = none) : Step H H0 m (L2.upd H p o) (L2.upd H0 p o) m := by
  have h0 : H0 p = none := s.free h
  refine ⟨Same.upd h0, ⟨[], by simp⟩, fun _ h => .inl h, fun b o e _ => Same.upd h b o e, fun a ha => ?_⟩
  by_cases e : a = p
  · subst e; exact .inr (.inr h)
  · rw [upd_ne e] at ha; exact .inl ha
/-- a new cell -/
theorem RelM.newC (rm : RelM K H H0 m μ) {o : HO} {p : Addr} {cl : Cell} (h : H p = none) (hc : CellOk K (L2.upd H p o) H0 (m ++ [p]) p cl) : RelM K (L2.upd H p o) H0 (m ++ [p]) (μ ++ [cl]) := by
  have hn := rm.notin h
  refine ⟨(rm.newU h).same, by simp [rm.len], ?_, fun a ha => ?_, fun c a cl' h1 h2 => ?_⟩
  · rw [List.nodup_append]
    exact ⟨rm.nd, by simp, fun a ha b hb => by
      have e : b = p := by simpa using hb
      rintro rfl
      exact hn (by rw [← e]; exact ha)⟩
  · rcases List.mem_append.mp ha with ha | ha
    · exact (rm.newU h).ne a ha
    · have e : a = p := by simpa using ha
      subst e; rw [upd_same]; exact fun z => by cases z
  · by_cases hl : c < m.length
    · rw [List.getElem?_append_left hl] at h1
      rw [List.getElem?_append_left (by rw [← rm.len]; exact hl)] at h2
      have hp : a ≠ p := fun e => hn (by rw [← e]; exact List.mem_of_getElem? h1)
      refine (rm.cell c a cl' h1 h2).mono (Same.refl _) (fun c' a' z => ?_) (fun o e => Same.upd h a o e) (fun z => z)
      rw [List.getElem?_append_left (List.getElem?_eq_some_iff.mp z).1]
      exact z
    · rw [List.getElem?_append_right (by omega)] at h1
      rw [List.getElem?_append_right (by rw [← rm.len]; omega)] at h2
      have e : c - m.length = 0 := by
        by_cases z : c - m.length = 0
        · exact z
        · rw [List.getElem?_eq_none (by simp; omega)] at h1; cases h1
      rw [e] at h1
      rw [← rm.len, e] at h2
      simp only [List.getElem?_cons_zero, Option.some.injEq] at h1 h2
      subst h1; subst h2
      exact hc
theorem Step.newC {o : HO} {p : Addr} (h : H p = none) : Step H H0 m (L2.upd H p o) H0 (m ++ [p]) :=
  ⟨Same.refl _, ⟨[p], rfl⟩, fun a ha => by
    rcases List.mem_append.mp ha with ha | ha
    · exact .inl ha
    · have e : a = p := by simpa using ha
      subst e; exact .inr h, fun b o e _ => Same.upd h b o e, fun _ h => .inl h⟩
/-- a cell is changed -/
theorem RelM.setC (rm : RelM K H H0 m μ) {o : HO} {p : Addr} {c : Nat} {cl : Cell} (h : m[c]? = some p) (h0 : H0 p = none) (hc : CellOk K (L2.upd H p o) H0 m p cl) : RelM K (L2.upd H p o) H0 m (μ.set c cl) := by
  refine ⟨fun b x e => ?_, by simp [rm.len], rm.nd, fun a ha => ?_, fun c' a cl' h1 h2 => ?_⟩
  · have : b ≠ p := fun z => by subst z; rw [h0] at e; cases e
    rw [upd_ne this]; exact rm.same b x e
  · by_cases e : a = p
    · subst e; rw [upd_same]; exact fun z => by cases z
    · rw [upd_ne e]; exact rm.ne a ha
  · by_cases e : c' = c
    · subst e
      rw [h] at h1; cases h1
      have hl : c' < μ.length := by rw [← rm.len]; exact (List.getElem?_eq_some_iff.mp h).1
      rw [List.getElem?_set_self hl] at h2; cases h2
      exact hc
    · rw [List.getElem?_set_ne (Ne.symm e)] at h2
      have hp : a ≠ p := fun z => by
        subst z
        exact e (nodup_ix' rm.nd h1 h)
      exact (rm.cell c' a cl' h1 h2).mono (Same.refl _) (fun _ _ z => z) (fun o e => by rw [upd_ne hp]; exact e) (fun z => z)
where
  nodup_ix' {N : List Addr} (hN : N.Nodup) {i j : Nat} {x : Addr} (a : N[i]? = some x) (b : N[j]? = some x) : i = j := by
    obtain ⟨h1, e1⟩ := List.getElem?_eq_some_iff.mp a
    obtain ⟨h2, e2⟩ := List.getElem?_eq_some_iff.mp b
    exact (List.getElem_inj hN).mp (e1.trans e2.symm)
theorem Step.setC {o : HO} {p : Addr} {c : Nat} (h : m[c]? = some p) : Step H H0 m (L2.upd H p o) H0 m :=
  ⟨Same.refl _, ⟨[], by simp⟩, fun _ h => .inl h, fun b o e hn => by
    rw [upd_ne fun z => hn (by rw [z]; exact List.mem_of_getElem? h)]
    exact e, fun _ h => .inl h⟩
end

/-! ### the ends -/
/-- an exception as it lies -/
def ExOk (mg : Str → Option Value) (K : PySem.W.Frag) (H0 : Hp) (x : Exn) (cls : Value) (dd : Option Addr) : Prop :=
  ∃ C, mg x.cls = some (.ref C) ∧ cls = .ref C ∧ ((x.fs = [] ∧ dd = none) ∨ ∃ a fvs, dd = some a ∧ H0 a = some (.xd fvs) ∧ repF K H0 x.fs fvs)
def PostE (K : PySem.W.Frag) (Q : VK) (H H0 : Hp) (m : List Addr) : D → Mem → Prop := fun d μ' => ∀ v H' H0' m', RelM K H' H0' m' μ' → Step H H0 m H' H0' m' → rep K H0' m' d v → Q v H'
def PostX (mg : Str → Option Value) (K : PySem.W.Frag) (W : Value → Option Addr → Hp → Prop) (H H0 : Hp) (m : List Addr) : Exn → Mem → Prop := fun x μ' => ∀ cls dd H' H0' m', RelM K H' H0' m' μ' → Step H H0 m H' H0' m' → ExOk mg K H0' x cls dd → W cls dd H'
theorem PostX.later {mg : Str → Option Value} {K : PySem.W.Frag} {W : Value → Option Addr → Hp → Prop} {H H0 H1 H01 : Hp} {m m1 : List Addr} {x : Exn} {μ : Mem} (h : PostX mg K W H H0 m x μ) (s : Step H H0 m H1 H01 m1) : PostX mg K W H1 H01 m1 x μ :=
  fun cls dd H' H0' m' r s' e => h cls dd H' H0' m' r (s.trans s') e
theorem PostE.later {K : PySem.W.Frag} {Q : VK} {H H0 H1 H01 : Hp} {m m1 : List Addr} {d : D} {μ : Mem} (h : PostE K Q H H0 m d μ) (s : Step H H0 m H1 H01 m1) : PostE K Q H1 H01 m1 d μ :=
  fun v H' H0' m' r s' e => h v H' H0' m' r (s.trans s') e
/-- what a def promises -/
def spF (mg : Str → Option Value) (K : PySem.W.Frag) (F : Orac) (f : Nat) : Sp := fun vs H Q E => ∃ ds μ H0 m, RelM K H H0 m μ ∧ reps K H0 m ds vs ∧ Sat (F f ds μ) (PostE K Q H H0 m) (PostX mg K E H H0 m)
/-! exceptions whose context is None (false), or any (true) -/
def TakesB : Bool → Cx → WX → Prop
  | false, X, W => L2N.Takes X W
  | true, X, W => L2.Takes X W
def CXB : Bool → Program → World → CXT
  | false, P, w => L2N.CX P w
  | true, P, w => L2.CX P w
theorem traced_zc {h B : Heap} {a : Addr} {cls : Value} {d : Option Addr} {fl : Value} (x : HandSPX.TracedZ h B a (L2N.Zn cls d) fl) : HandSPX.TracedZ h B a (Zc cls d) fl := by
  obtain ⟨oe, vs, T, oT, ts, he, hz, r⟩ := x
  exact ⟨oe, vs, T, oT, ts, he, hz.zc, r⟩
theorem sky_zc {B h : Heap} {l : List Env} {a L : Addr} {cls : Value} {d : Option Addr} (x : Sky B l a (L2N.Zn cls d) L h) : Sky B l a (Zc cls d) L h := by
  rcases x with ⟨x1, x2, x3, oe, vs, he, hz, r⟩ | x | x
  · exact .inl ⟨x1, x2, x3, oe, vs, he, hz.zc, r⟩
  · exact .inr (.inl ⟨x.1, x.2.1, x.2.2.1, traced_zc x.2.2.2⟩)
  · exact .inr (.inr ⟨x.1, x.2.1, x.2.2.1, traced_zc x.2.2.2⟩)
theorem xe_zc {X : Cx} {W : WX} {u : Value} {s' : Shared} (x : L2N.XE X W u s') : L2.XE X W u s' := by
  obtain ⟨a, B, sI, pins, σ, H, cls, d, e, I, nb, up, sky, r⟩ := x
  exact ⟨a, B, sI, pins, σ, H, cls, d, e, I, nb, up, sky_zc sky, r⟩
theorem cx_zc {P : Program} {w : World} {outer : List Env} {H : Hp} {s : Shared} {E : XK} {u : Value} {s' : Shared} (x : L2N.CX P w outer H s E u s') : L2.CX P w outer H s E u s' := by
  obtain ⟨a, B, H', cls, d, e, fl, r⟩ := x
  exact ⟨a, B, H', cls, d, e, ⟨fl.1, fl.2.1, fl.2.2.1, traced_zc fl.2.2.2⟩, r⟩
theorem TakesB.n {b : Bool} {X : Cx} {W : WX} (t : TakesB b X W) : L2N.Takes X W := by
  cases b with
  | false => exact t
  | true => exact fun u s' x => t u s' (xe_zc x)
theorem TakesB.zero {b : Bool} {X : Cx} : TakesB b X (fun _ _ _ _ => False) := by
  cases b
  · exact fun _ _ ⟨_, _, _, _, _, _, _, _, _, _, _, _, _, _, _, _, w⟩ => w.elim
  · exact fun _ _ ⟨_, _, _, _, _, _, _, _, _, _, _, _, _, _, _, _, w⟩ => w.elim
theorem TakesB.passAt {b c : Bool} {X : Cx} {W : WX} (t : TakesB b X W) (h : c = true → b = true) (σ : L2.St) : PassesAt (CXB c X.prog X.w) X σ (WE W σ) := by
  cases c with
  | false => exact L2N.passAt t.n σ
  | true =>
    obtain rfl := h rfl
    exact L2.passAt t σ
structure CallOk (X : Cx) (F : Orac) (k f : Nat) (nm : Str) (wk : Bool) : Prop where
  ok : ∃ (a : Addr) (fd : FuncData) (ps : List Str) (c : Bool), (c = true → wk = true) ∧ X.mg nm = some (.ref a) ∧ PySem.W.keepIn X.K (.ref a) = true ∧ Binds X.K fd ps [] ∧ FnOk X.prog X.w X.K X.mg X.base (CXB c X.prog X.w) k a fd ps (spF X.mg X.K F f)
/-- a class of exceptions: its fields; whether it has an __init__ of its own -/
structure ClsI where
  nm : Str
  fs : List Str
  ini : Bool
structure Sig where
  fn : Nat → Option Str
  blts : List Str
  glo : List (Str × T)
  cls : List ClsI
  sub : List (Str × Str × Bool)
  xf : List (Str × Str × Bool) := []
  wk : Bool := false
  fns : Nat → Option Str := fun _ => none
def veL : List Value := [.type "ValueError", .type "Exception", .type "BaseException", .type "object"]
/-- what stands of such a class -/
def ClsX (P : Program) (w : World) (K : PySem.W.Frag) (mg : Str → Option Value) (base : Heap) (c : ClsI) : Prop :=
  ∃ C, mg c.nm = some (.ref C) ∧ ClsF K C ∧ (∀ f ∈ c.fs, PySem.W.findIn K (.ref C) f = some none) ∧
    if c.ini = true then OexC K C ∧ ∃ (fI : Addr) (fd : FuncData) (slf : Str), PySem.W.findIn K (.ref C) "__init__" = some (some (.ref fI)) ∧ PySem.W.typeIn K (.ref fI) = some (.type "function") ∧ Binds K fd (slf :: c.fs) [] ∧
      FnOk P w K mg base (L2N.CX P w) 1 fI fd (slf :: c.fs) (spIni K C c.fs)
    else PySem.W.excIn K C veL "ValueError.__new__" = true ∧ PySem.W.keepIn K (.ref C) = true ∧ PySem.W.typeIn K (.ref C) = some (.type "type")
/-- d, the class asked for, is the value V -/
def NmV (mg : Str → Option Value) (d : Str) (V : Value) : Prop := (mg d = some V ∧ ∃ C, V = .ref C) ∨ (mg d = none ∧ bootBuiltins d = some V ∧ d ≠ "__name__" ∧ ∃ n, V = .type n)
def SubX (K : PySem.W.Frag) (mg : Str → Option Value) (c d : Str) (b : Bool) : Prop := ∃ C V, mg c = some (.ref C) ∧ ClsF K C ∧ NmV mg d V ∧ PySem.W.exmOne K (.ref C) V = some b ∧ PySem.W.kitOne K (.ref C) V = some b
structure Gam extends Sig where
  F : Orac
def relG : T → Value → Prop
  | .non, u => u = .none
  | .bl b, u => u = .bool b
  | .int i, u => ∃ t, u = .int i t
  | .str x, u => ∃ t, u = .str x t
  | _, _ => False
/-- the names of a def or a block; cf: whose cells are its own -/
structure Sco extends Scope where
  cf : Str → Bool
  top : Bool
structure Gd (Γ : Gam) (k : Nat) (N : List Str) (sc : Sco) (X : Cx) (W : WX) : Prop where
  hN : X.N = N
  nd : N.Nodup
  hsc : X.env.scope = sc.toScope
  kind : sc.kind = .function
  calm : X.calm = true
  room : Room k X.A
  tk : TakesB Γ.wk X W
  po : PassesOwn (model X.prog X.w) X.A X.env X.xe
  fn : ∀ x, sc.cf x = true → X.fn x = true
  call : ∀ f nm, Γ.fn f = some nm → CallOk X Γ.F k f nm Γ.wk
  calls : ∀ f nm, Γ.fns f = some nm → CallOk X Γ.F k f nm false
  blt : ∀ x ∈ Γ.blts, X.mg x = none
  glo : ∀ x t, (x, t) ∈ Γ.glo → ∃ u, X.mg x = some u ∧ relG t u
  lev : 2 ≤ k
  cls : ∀ c ∈ Γ.cls, ClsX X.prog X.w X.K X.mg X.base c
  sub : ∀ c d b, (c, d, b) ∈ Γ.sub → SubX X.K X.mg c d b
  xf : ∀ f c b, (f, c, b) ∈ Γ.xf → XfX X.prog X.w X.K X.mg X.base f c b
  stk : sc.top = true → X.stack = X.env :: X.outer ∧ X.env.frame = some X.env.locals
  pa : sc.top = true → ∀ hd : Option Value, PassesOwnAt (model X.prog X.w) (X.A.mark hd) X.A X.env X.xe
/-- a reading t does what c says; ρ: how what c tells stands for what t tells -/
def AnsG {α β : Type} (ρ : PySem.W.Frag → Hp → List Addr → α → β → Prop) (X : Cx) (W : WX) (t : L2.St → Hp → (β → Hp → Prop) → Prop) (c : Envv → M α) : Prop := ∀ σ H env μ H0 m Q, RelM X.K H H0 m μ → EnvOk X.K H0 m env σ →
  Sat (c env μ) (fun a μ' => ∀ b H' H0' m', RelM X.K H' H0' m' μ' → Step H H0 m H' H0' m' → ρ X.K H0' m' a b → Q b H') (PostX X.mg X.K (fun a b => W a b σ) H H0 m) → t σ H Q
abbrev Ans (X : Cx) (W : WX) (t : TE) (c : Envv → M D) : Prop := AnsG rep X W t c
def eqR {α : Type} : PySem.W.Frag → Hp → List Addr → α → α → Prop := fun _ _ _ a b => a = b
structure VE (Γ : Gam) (k : Nat) (N : List Str) (sc : Sco) (x : Expr) (e : E) : Prop where
  run : ∀ X W, Gd Γ k N sc X W → ∃ t, PE X x t ∧ Ans X W t (evE Γ.F e)
theorem AnsG.bnd {α β γ : Type} {ρ : PySem.W.Frag → Hp → List Addr → α → β → Prop} {X : Cx} {W : WX} {t : L2.St → Hp → (β → Hp → Prop) → Prop} {c : Envv → M α} (ha : AnsG ρ X W t c) {σ : L2.St} {H H0 : Hp} {env : Envv} {μ : Mem} {m : List Addr} {f : α → M γ} {P : γ → Mem → Prop} {R : β → Hp → Prop}
    (rm : RelM X.K H H0 m μ) (en : EnvOk X.K H0 m env σ) (h : Sat (bnd (c env) f μ) P (PostX X.mg X.K (fun a b => W a b σ) H H0 m))
    (k : ∀ d μ1 v H1 H01 m1, RelM X.K H1 H01 m1 μ1 → Step H H0 m H1 H01 m1 → ρ X.K H01 m1 d v → EnvOk X.K H01 m1 env σ → Sat (f d μ1) P (PostX X.mg X.K (fun a b => W a b σ) H1 H01 m1) → R v H1) : t σ H R := by
  refine ha σ H env μ H0 m R rm en (Sat.mono (Sat.bnd h) (fun d μ1 q => ?_) fun x μ1 q => q)
  intro v H1 H01 m1 rm1 s1 r1
  exact k d μ1 v H1 H01 m1 rm1 s1 r1 (en.step s1) (q.mono (fun _ _ z => z) fun x μ2 z => z.later s1)
/-- a new list's reading -/
theorem mkL_ok {K : PySem.W.Frag} {H H0 : Hp} {m : List Addr} {μ : Mem} {fz : Bool} {ds : List D} {vs : List V} {Q : VK} {P : D → Mem → Prop} {E : Exn → Mem → Prop} (rm : RelM K H H0 m μ) (r : reps K H0 m ds vs) (h : Sat (mkL fz ds μ) P E)
    (hP : ∀ d μ, P d μ → PostE K Q H H0 m d μ) : ds.length ≤ sizeLine ∧ ∀ p, H p = none → Q (.ref p) (upd H p (.lst vs)) := by
  unfold mkL at h
  split at h
  · rename_i hz
    refine ⟨hz, fun p hp => ?_⟩
    cases fz with
    | true =>
      simp only at h
      split at h
      · rename_i ts e
        have h : P (.t (.lst ts)) μ := h
        have e := toTs_map e
        refine hP _ _ h (.ref p) _ (upd H0 p (.lst vs)) m (rm.newF hp) (Step.newF rm.same hp) ?_
        simp only [rep, repT]
        refine ⟨p, vs, rfl, upd_same, ?_⟩
        rw [repT_ts (m := m), ← e]
        exact r.mono (Same.upd (rm.same.free hp)) fun _ _ z => z
      · exact h.elim
    | false =>
      have h : P (.ref μ.length) (μ ++ [.lst ds]) := h
      refine hP _ _ h (.ref p) _ H0 (m ++ [p]) (rm.newC hp ⟨rm.same.free hp, vs, upd_same, r.mono (Same.refl _) fun c a z => ?_⟩) (Step.newC hp) ?_
      · rw [List.getElem?_append_left (List.getElem?_eq_some_iff.mp z).1]; exact z
      · simp only [rep]
        exact ⟨p, by rw [← rm.len]; simp, rfl⟩
  · exact h.elim
theorem mkTup_ok {K : PySem.W.Frag} {H H0 : Hp} {m : List Addr} {μ : Mem} {ds : List D} {vs : List V} {Q : VK} {P : D → Mem → Prop} {E : Exn → Mem → Prop} (rm : RelM K H H0 m μ) (r : reps K H0 m ds vs) (h : Sat (mkTup ds μ) P E)
    (hP : ∀ d μ, P d μ → PostE K Q H H0 m d μ) : ds.length ≤ sizeLine ∧ ∀ p, H p = none → Q (.ref p) (upd H p (.tup vs)) := by
  unfold mkTup at h
  split at h
  · rename_i hz
    refine ⟨hz, fun p hp => ?_⟩
    split at h
    · rename_i ts e
      have h : P (.t (.tup ts)) μ := h
      have e := toTs_map e
      refine hP _ _ h (.ref p) _ (upd H0 p (.tup vs)) m (rm.newF hp) (Step.newF rm.same hp) ?_
      simp only [rep, repT]
      refine ⟨p, vs, rfl, upd_same, ?_⟩
      rw [repT_ts (m := m), ← e]
      exact r.mono (Same.upd (rm.same.free hp)) fun _ _ z => z
    · have h : P (.tp ds) μ := h
      refine hP _ _ h (.ref p) _ (upd H0 p (.tup vs)) m (rm.newF hp) (Step.newF rm.same hp) ?_
      simp only [rep]
      exact ⟨p, vs, rfl, upd_same, r.mono (Same.upd (rm.same.free hp)) fun _ _ z => z⟩
  · exact h.elim
end MI
/-! MI3: operators. -/
namespace MI
open PySem PySem.Spec PyProof.Rows L2

/-- a two-place operation does what c says -/
def OpA (X : Cx) (f : Value → Value → Sem Value) (c : D → D → M D) : Prop := ∃ r, OpR X f r ∧ ∀ (x y : D) (v w : V) (H H0 : Hp) (m : List Addr) (μ : Mem) (Q : VK) (P : D → Mem → Prop) (E : Exn → Mem → Prop),
  RelM X.K H H0 m μ → rep X.K H0 m x v → rep X.K H0 m y w → Sat (c x y μ) P E → (∀ d μ, P d μ → PostE X.K Q H H0 m d μ) → r v w H Q
/-- the same memory, a scalar -/
theorem PostE.scal {K : PySem.W.Frag} {H H0 : Hp} {m : List Addr} {μ : Mem} {Q : VK} {d : D} {v : V} (rm : RelM K H H0 m μ) (h : PostE K Q H H0 m d μ) (r : rep K H0 m d v) : Q v H := h v H H0 m rm Step.refl r
theorem rep_int {K : PySem.W.Frag} {H : Hp} {m : List Addr} {i : Int} {v : V} : rep K H m (.t (.int i)) v ↔ v = .int i := by simp only [rep, repT]
theorem rep_bl {K : PySem.W.Frag} {H : Hp} {m : List Addr} {i : Bool} {v : V} : rep K H m (.t (.bl i)) v ↔ v = .bl i := by simp only [rep, repT]
theorem rep_str {K : PySem.W.Frag} {H : Hp} {m : List Addr} {i : Str} {v : V} : rep K H m (.t (.str i)) v ↔ v = .str i := by simp only [rep, repT]
theorem rep_non {K : PySem.W.Frag} {H : Hp} {m : List Addr} {v : V} : rep K H m (.t .non) v ↔ v = .non := by simp only [rep, repT]
section
variable {X : Cx}
theorem binI_of {op : Bop} {x y : D} {μ : Mem} {P : D → Mem → Prop} {E : Exn → Mem → Prop} (hn : op ≠ .add) (hm : op ≠ .mul) (h : Sat (binD op x y μ) P E) : ∃ i j k, x = .t (.int i) ∧ y = .t (.int j) ∧ binI op i j = some k ∧ P (.t (.int k)) μ := by
  unfold binD at h
  split at h
  · rename_i i j
    split at h
    · rename_i k e
      exact ⟨i, j, k, rfl, rfl, e, h⟩
    · exact h.elim
  · exfalso
    cases op <;> first | exact hn rfl | exact hm rfl | exact h
theorem opA_int {f : Value → Value → Sem Value} {op : Bop} {C : Int → Int → Prop} {g : Int → Int → Int} (hn : op ≠ .add) (hm : op ≠ .mul) (ho : OpR X f (rI C fun i j => .int (g i j))) (hb : ∀ i j k, binI op i j = some k → C i j ∧ k = g i j) : OpA X f (binD op) := by
  refine ⟨_, ho, fun x y v w H H0 m μ Q P E rm rx ry h hP => ?_⟩
  obtain ⟨i, j, k, rfl, rfl, e, q⟩ := binI_of hn hm h
  obtain ⟨c, rfl⟩ := hb _ _ _ e
  exact ⟨i, j, rep_int.mp rx, rep_int.mp ry, c, (hP _ _ q).scal rm (rep_int.mpr rfl)⟩
theorem opA_add : OpA X (binaryOp .Add) (binD .add) := by
  refine ⟨_, OpR.or op_add (OpR.or op_cat op_catA), fun x y v w H H0 m μ Q P E rm rx ry h hP => ?_⟩
  unfold binD at h
  split at h
  · rename_i i j
    simp only [binI] at h
    exact .inl ⟨i, j, rep_int.mp rx, rep_int.mp ry, (hP _ _ h).scal rm (rep_int.mpr rfl)⟩
  · simp only at h
    split at h
    · rename_i xs ys e1 e2
      obtain ⟨a, vs, rfl, h1, r1⟩ := rm.lstN rx e1
      obtain ⟨b, ws, rfl, h2, r2⟩ := rm.lstN ry e2
      obtain ⟨z, q⟩ := mkL_ok (Q := Q) rm (reps_append r1 r2) h hP
      refine .inr (.inl ⟨a, b, vs, ws, rfl, rfl, h1, h2, ?_, q⟩)
      rw [List.length_append, reps_len r1, reps_len r2] at z
      exact z
    · split at h
      · rename_i ta tb _ _
        have rx' := rx
        have ry' := ry
        simp only [rep, repT] at rx' ry'
        obtain ⟨a, vs, rfl, h1, r1⟩ := rx'
        obtain ⟨b, ws, rfl, h2, r2⟩ := ry'
        have r1' : reps X.K H0 m (ta.map D.t) vs := by rwa [← repT_ts]
        have r2' : reps X.K H0 m (tb.map D.t) ws := by rwa [← repT_ts]
        rw [List.map_append] at h
        obtain ⟨z, q⟩ := mkTup_ok (Q := Q) rm (reps_append r1' r2') h hP
        have l1 := reps_len r1'
        have l2 := reps_len r2'
        rw [List.length_append] at z
        have val : ∀ t : List T, ta.map D.t ++ tb.map D.t = t.map D.t → P (.t (.tup t)) μ := fun t e => by
          rw [e] at h
          unfold mkTup at h
          split at h
          · rw [toTs_of] at h
            exact h
          · exact h.elim
        refine .inr (.inr ⟨a, b, vs, ws, rfl, rfl, .of (rm.same _ _ h1), .of (rm.same _ _ h2), by omega, fun e => ?_, fun _ e => ?_, fun _ _ => q⟩)
        · subst e
          have : ta = [] := by
            have : ta.length = 0 := by simpa using l1
            exact List.eq_nil_of_length_eq_zero this
          subst this
          exact (hP _ _ (val tb rfl)).scal rm ry
        · subst e
          have : tb = [] := by
            have : tb.length = 0 := by simpa using l2
            exact List.eq_nil_of_length_eq_zero this
          subst this
          exact (hP _ _ (val ta (by simp))).scal rm rx
      · exact h.elim
theorem opA_sub : OpA X (binaryOp .Sub) (binD .sub) := by
  refine ⟨_, op_sub, fun x y v w H H0 m μ Q P E rm rx ry h hP => ?_⟩
  obtain ⟨i, j, k, rfl, rfl, e, q⟩ := binI_of (by decide) (by decide) h
  simp only [binI, Option.some.injEq] at e
  subst e
  exact ⟨i, j, rep_int.mp rx, rep_int.mp ry, (hP _ _ q).scal rm (rep_int.mpr rfl)⟩
theorem reps_rep {K : PySem.W.Frag} {H : Hp} {m : List Addr} {ds : List D} {vs : List V} (r : reps K H m ds vs) : ∀ n : Nat, reps K H m (List.replicate n ds).flatten (List.replicate n vs).flatten
  | 0 => by simp only [List.replicate_zero, List.flatten_nil, reps]
  | n + 1 => by
    simp only [List.replicate_succ, List.flatten_cons]
    exact reps_append r (reps_rep r n)
theorem opA_mul : OpA X (binaryOp .Mult) (binD .mul) := by
  refine ⟨_, OpR.or op_mul op_rep, fun x y v w H H0 m μ Q P E rm rx ry h hP => ?_⟩
  unfold binD at h
  split at h
  · rename_i i j
    split at h
    · rename_i k e
      simp only [binI, ifC] at e
      split at e
      · rename_i hc
        cases e
        refine .inl ⟨i, j, rep_int.mp rx, rep_int.mp ry, ?_, (hP _ _ h).scal rm (rep_int.mpr rfl)⟩
        unfold CMul
        simp only [inR, Bool.or_eq_true, Bool.and_eq_true, decide_eq_true_eq] at hc
        exact hc
      · cases e
    · exact h.elim
  · simp only at h
    split at h
    · rename_i xs k e1 _
      split at h
      · rename_i hc
        obtain ⟨a, vs, rfl, h1, r1⟩ := rm.lstN rx e1
        obtain ⟨z, q⟩ := mkL_ok (Q := Q) rm (reps_rep r1 k.toNat) h hP
        exact .inr ⟨a, k, vs, rfl, rep_int.mp ry, h1, by omega, by omega, by rw [← reps_len r1]; exact hc.2.2, q⟩
      · exact h.elim
    · exact h.elim
theorem opA_fdiv : OpA X (binaryOp .FloorDiv) (binD .fdiv) := opA_int (by decide) (by decide) op_fdiv fun i j k e => by
  simp only [binI, ifC] at e
  split at e
  · rename_i h
    cases e
    exact ⟨h, rfl⟩
  · cases e
theorem opA_mod : OpA X (binaryOp .Mod) (binD .mod) := opA_int (by decide) (by decide) op_mod fun i j k e => by
  simp only [binI] at e
  split at e
  · rename_i h
    cases e
    exact ⟨h, rfl⟩
  · cases e
theorem opA_pow : OpA X (binaryOp .Pow) (binD .pow) := opA_int (by decide) (by decide) op_pow fun i j k e => by
  simp only [binI] at e
  split at e
  · rename_i h
    cases e
    exact ⟨h, rfl⟩
  · cases e
def opOf : Bop → Operator
  | .add => .Add | .sub => .Sub | .mul => .Mult | .fdiv => .FloorDiv | .mod => .Mod | .pow => .Pow
theorem opA_bin (op : Bop) : OpA X (binaryOp (opOf op)) (binD op) := by
  cases op
  · exact opA_add
  · exact opA_sub
  · exact opA_mul
  · exact opA_fdiv
  · exact opA_mod
  · exact opA_pow

/-! ### comparisons -/
theorem toI_int {d : D} {i : Int} {K : PySem.W.Frag} {H : Hp} {m : List Addr} {v : V} (e : toI d = some i) (r : rep K H m d v) : v = .int i := by
  rw [toI_some e] at r
  exact rep_int.mp r
theorem tupIs_of {K : PySem.W.Frag} {H H0 : Hp} {m : List Addr} {μ : Mem} {d : D} {v : V} {ns : List Int} (rm : RelM K H H0 m μ) (r : rep K H0 m d v) (h : tupIs d = some ns) : ∃ a, v = .ref a ∧ SqT K H a (ns.map V.int) := by
  unfold tupIs at h
  split at h
  · rename_i ds e
    obtain ⟨a, vs, rfl, h1, r1⟩ := rm.tup r e
    rw [reps_ints r1 h] at h1
    exact ⟨a, rfl, .of h1⟩
  · cases h
theorem opA_lt (hu : X.A.units < cLine) : OpA X (compareOp .Lt) (cmpD .lt) := by
  refine ⟨_, OpR.or op_lt (op_ltT hu), fun x y v w H H0 m μ Q P E rm rx ry h hP => ?_⟩
  simp only [cmpD] at h
  split at h
  · rename_i i j e1 e2
    simp only [cmpI] at h
    exact .inl ⟨i, j, toI_int e1 rx, toI_int e2 ry, (hP _ _ h).scal rm (rep_bl.mpr rfl)⟩
  · split at h
    all_goals first
      | exact h.elim
      | (rename_i e0 _ _; cases e0; done)
      | (rename_i ns ms _ e1 e2
         obtain ⟨a, rfl, h1⟩ := tupIs_of rm rx e1
         obtain ⟨b, rfl, h2⟩ := tupIs_of rm ry e2
         exact .inr ⟨a, b, ns, ms, rfl, rfl, h1, h2, (hP _ _ h).scal rm (rep_bl.mpr rfl)⟩)
theorem opA_le (hu : X.A.units < cLine) : OpA X (compareOp .LtE) (cmpD .le) := by
  refine ⟨_, OpR.or op_le (op_leT hu), fun x y v w H H0 m μ Q P E rm rx ry h hP => ?_⟩
  simp only [cmpD] at h
  split at h
  · rename_i i j e1 e2
    simp only [cmpI] at h
    exact .inl ⟨i, j, toI_int e1 rx, toI_int e2 ry, (hP _ _ h).scal rm (rep_bl.mpr rfl)⟩
  · split at h
    all_goals first
      | exact h.elim
      | (rename_i e0 _ _; cases e0; done)
      | (rename_i ns ms _ e1 e2
         obtain ⟨a, rfl, h1⟩ := tupIs_of rm rx e1
         obtain ⟨b, rfl, h2⟩ := tupIs_of rm ry e2
         exact .inr ⟨a, b, ns, ms, rfl, rfl, h1, h2, (hP _ _ h).scal rm (rep_bl.mpr rfl)⟩)
theorem opA_cmpI {f : Value → Value → Sem Value} {op : Cop} {g : Int → Int → Bool} (ho : OpR X f (rI0 fun i j => .bl (g i j))) (hop : op = .gt ∨ op = .ge) (hb : ∀ i j, cmpI op i j = some (g i j)) : OpA X f (cmpD op) := by
  refine ⟨_, ho, fun x y v w H H0 m μ Q P E rm rx ry h hP => ?_⟩
  have h' : ∃ i j, toI x = some i ∧ toI y = some j ∧ P (.t (.bl (g i j))) μ := by
    rcases hop with rfl | rfl <;>
    · simp only [cmpD] at h
      split at h
      · rename_i i j e1 e2
        rw [hb] at h
        exact ⟨i, j, e1, e2, h⟩
      · exact h.elim
  obtain ⟨i, j, e1, e2, q⟩ := h'
  exact ⟨i, j, toI_int e1 rx, toI_int e2 ry, (hP _ _ q).scal rm (rep_bl.mpr rfl)⟩
theorem opA_gt : OpA X (compareOp .Gt) (cmpD .gt) := opA_cmpI op_gt (.inl rfl) fun _ _ => rfl
theorem opA_ge : OpA X (compareOp .GtE) (cmpD .ge) := opA_cmpI op_ge (.inr rfl) fun _ _ => rfl
theorem scalD_ok {K : PySem.W.Frag} {H : Hp} {m : List Addr} {x y : D} {v w : V} {b : Bool} (h : scalD x y = some b) (rx : rep K H m x v) (ry : rep K H m y w) : L2.scal v w = true ∧ decide (v = w) = b := by
  unfold scalD at h
  split at h
  · cases h
    rw [rep_non.mp rx, rep_non.mp ry]
    exact ⟨rfl, rfl⟩
  · cases h
    rw [rep_bl.mp rx, rep_bl.mp ry]
    exact ⟨rfl, dec_bl⟩
  · cases h
    rw [rep_int.mp rx, rep_int.mp ry]
    exact ⟨rfl, dec_int⟩
  · cases h
    rw [rep_str.mp rx, rep_str.mp ry]
    exact ⟨rfl, by simp⟩
  · cases h
mutual
theorem dp_of {K : PySem.W.Frag} {H : Hp} : ∀ {t : T} {v : V} {d : PyData}, toP t = some d → repT K H t v → Dp K H v d
  | .non, v, d, h, r => by simp only [toP] at h; simp only [repT] at r; cases h; subst r; exact .non
  | .bl b, v, d, h, r => by simp only [toP] at h; simp only [repT] at r; cases h; subst r; exact .bl _
  | .int i, v, d, h, r => by simp only [toP] at h; simp only [repT] at r; cases h; subst r; exact .int _
  | .str x, v, d, h, r => by simp only [toP] at h; simp only [repT] at r; cases h; subst r; exact .str _
  | .lst ts, v, d, h, r => by
    simp only [toP] at h
    simp only [repT] at r
    obtain ⟨a, vs, rfl, h1, h2⟩ := r
    obtain ⟨ds, e, rfl⟩ := Option.map_eq_some_iff.mp h
    exact .lst (.of h1) (dps_of e h2)
  | .tup ts, v, d, h, r => by
    simp only [toP] at h
    simp only [repT] at r
    obtain ⟨a, vs, rfl, h1, h2⟩ := r
    obtain ⟨ds, e, rfl⟩ := Option.map_eq_some_iff.mp h
    exact .tup (.of h1) (dps_of e h2)
  | .scr ns, v, d, h, r => by
    simp only [toP] at h
    simp only [repT] at r
    obtain ⟨a, rfl, h1⟩ := r
    cases h
    exact .lst h1 (dps_int ns)
  | .dct _, _, _, h, _ => by simp only [toP] at h; cases h
  | .dcT _, _, _, h, _ => by simp only [toP] at h; cases h
theorem dps_of {K : PySem.W.Frag} {H : Hp} : ∀ {ts : List T} {vs : List V} {ds : List PyData}, toPs ts = some ds → repTs K H ts vs → DpAll K H vs ds
  | [], vs, ds, h, r => by simp only [toPs] at h; simp only [repTs] at r; cases h; subst r; exact .nil
  | t :: ts, vs, ds, h, r => by
    simp only [toPs] at h
    simp only [repTs] at r
    obtain ⟨v, q, rfl, r1, r2⟩ := r
    split at h
    · rename_i d ds e1 e2
      cases h
      exact .cons (dp_of e1 r1) (dps_of e2 r2)
    · cases h
theorem dps_int {K : PySem.W.Frag} {H : Hp} : ∀ (ns : List Int), DpAll K H (ns.map V.int) (ns.map PyData.int)
  | [] => .nil
  | n :: ns => .cons (.int n) (dps_int ns)
end
theorem deepC_dp {K : PySem.W.Frag} {H H0 : Hp} {m : List Addr} {μ : Mem} {x : D} {v : V} {d : PyData} (rm : RelM K H H0 m μ) (r : rep K H0 m x v) (h : deepC μ x = some d) : Dp K H v d := by
  unfold deepC at h
  split at h
  · simp only [rep] at r
    exact dp_of h (r.mono rm.same)
  · rename_i c
    split at h
    · rename_i ds e
      obtain ⟨ps, e1, rfl⟩ := Option.map_eq_some_iff.mp h
      obtain ⟨ts, e2, e3⟩ := Option.bind_eq_some_iff.mp e1
      have e0 : lstOf μ (.ref c) = some ds := by simp only [lstOf, e]
      obtain ⟨a, vs, rfl, h1, r1⟩ := rm.lst r e0
      rw [toTs_map e2, ← repT_ts] at r1
      exact .lst h1 (dps_of e3 (repTs.mono rm.same r1))
    · cases h
  · cases h
theorem deepCs_dp {K : PySem.W.Frag} {H H0 : Hp} {m : List Addr} {μ : Mem} (rm : RelM K H H0 m μ) : ∀ {ds : List D} {vs : List V} {xs : List PyData}, reps K H0 m ds vs → deepCs μ ds = some xs → DpAll K H vs xs
  | [], vs, xs, r, h => by
    simp only [reps] at r
    subst r
    cases h
    exact .nil
  | d :: ds, vs, xs, r, h => by
    simp only [reps] at r
    obtain ⟨v, q, rfl, r1, r2⟩ := r
    simp only [deepCs] at h
    split at h
    · rename_i x xs' e1 e2
      cases h
      exact .cons (deepC_dp rm r1 e1) (deepCs_dp rm r2 e2)
    · cases h
theorem deep_dp {K : PySem.W.Frag} {H H0 : Hp} {m : List Addr} {μ : Mem} {x : D} {v : V} {d : PyData} (rm : RelM K H H0 m μ) (r : rep K H0 m x v) (h : deepD μ x = some d) : Dp K H v d := by
  cases x with
  | t x => exact deepC_dp (x := .t x) rm r h
  | ref c => exact deepC_dp (x := .ref c) rm r h
  | tp ds =>
    simp only [deepD] at h
    obtain ⟨xs, e, rfl⟩ := Option.map_eq_some_iff.mp h
    simp only [rep] at r
    obtain ⟨a, vs, rfl, h1, r1⟩ := r
    exact .tup (.of (rm.same _ _ h1)) (deepCs_dp rm r1 e)
theorem eqP_ok {K : PySem.W.Frag} {H H0 : Hp} {m : List Addr} {μ : Mem} {x y : D} {v w : V} {b : Bool} (rm : RelM K H H0 m μ) (rx : rep K H0 m x v) (ry : rep K H0 m y w) (h : eqP μ x y = some b) : ∃ d e, Dp K H v d ∧ Dp K H w e ∧ SeqAt.shaped d = true ∧ SeqAt.shaped e = true ∧ PyData.eqv d e = b := by
  unfold eqP at h
  split at h
  · rename_i d e e1 e2
    split at h
    · rename_i hc
      rw [Bool.and_eq_true] at hc
      cases h
      exact ⟨d, e, deep_dp rm rx e1, deep_dp rm ry e2, hc.1, hc.2, rfl⟩
    · cases h
  · cases h
theorem memP_ok {K : PySem.W.Frag} {H H0 : Hp} {m : List Addr} {μ : Mem} {x y : D} {v w : V} {b : Bool} (rm : RelM K H H0 m μ) (rx : rep K H0 m x v) (ry : rep K H0 m y w) (h : memP μ x y = some b) : ∃ d ds, Dp K H v d ∧ Dp K H w (.list ds) ∧ d.canLay0 = true ∧ PyData.canLayAll0 ds = true ∧ d.depth ≤ 63 ∧ (ds.any fun z => PyData.eqv z d) = b := by
  unfold memP at h
  split at h
  · rename_i d ds e1 e2
    split at h
    · rename_i hc
      simp only [Bool.and_eq_true, decide_eq_true_eq] at hc
      cases h
      exact ⟨d, ds, deep_dp rm rx e1, deep_dp rm ry e2, hc.1.1, hc.1.2, hc.2, rfl⟩
    · cases h
  · cases h
def rMemP (K : PySem.W.Frag) (neg : Bool) : R2 := fun x y H Q => ∃ d ds, Dp K H x d ∧ Dp K H y (.list ds) ∧ d.canLay0 = true ∧ PyData.canLayAll0 ds = true ∧ d.depth ≤ 63 ∧ Q (.bl (if neg then !(ds.any fun z => PyData.eqv z d) else (ds.any fun z => PyData.eqv z d))) H
theorem op_memP (hu : X.A.units + 64 < cLine) : OpR X (compareOp .In) (rMemP X.K false) := by
  intro pins s σ H x y v u Q I rx ry h
  obtain ⟨d, ds, hd, he, sd, se, hz, q⟩ := h
  obtain ⟨as, r1⟩ := Dp.reads I d x v hd rx
  obtain ⟨bs, r2⟩ := Dp.reads I (.list ds) y u he ry
  exact SeqAt.in_list_reads r2 r1 se sd (by omega) ⟨.bl _, H, I, rfl, q⟩
theorem op_memPN (hu : X.A.units + 64 < cLine) : OpR X (compareOp .NotIn) (rMemP X.K true) := by
  intro pins s σ H x y v u Q I rx ry h
  obtain ⟨d, ds, hd, he, sd, se, hz, q⟩ := h
  obtain ⟨as, r1⟩ := Dp.reads I d x v hd rx
  obtain ⟨bs, r2⟩ := Dp.reads I (.list ds) y u he ry
  exact SeqAt.notIn_list_reads r2 r1 se sd (by omega) ⟨.bl _, H, I, rfl, q⟩
theorem opA_eq (hu : X.A.units + 64 < cLine) : OpA X (compareOp .Eq) (cmpD .eq) := by
  refine ⟨_, OpR.or op_eq (op_eqD hu), fun x y v w H H0 m μ Q P E rm rx ry h hP => ?_⟩
  simp only [cmpD] at h
  split at h
  · rename_i b e
    have hq := (hP _ _ h).scal rm (rep_bl.mpr rfl)
    split at e
    · rename_i b' e'
      cases e
      obtain ⟨h1, rfl⟩ := scalD_ok e' rx ry
      exact .inl ⟨h1, hq⟩
    · obtain ⟨d, e', q1, q2, q3, q4, rfl⟩ := eqP_ok rm rx ry e
      exact .inr ⟨d, e', q1, q2, q3, q4, hq⟩
  · exact h.elim
theorem opA_ne (hu : X.A.units + 64 < cLine) : OpA X (compareOp .NotEq) (cmpD .ne) := by
  refine ⟨_, OpR.or op_ne (op_neD hu), fun x y v w H H0 m μ Q P E rm rx ry h hP => ?_⟩
  simp only [cmpD] at h
  split at h
  · rename_i b e
    have hq := (hP _ _ h).scal rm (rep_bl.mpr rfl)
    split at e
    · rename_i b' e'
      cases e
      obtain ⟨h1, rfl⟩ := scalD_ok e' rx ry
      exact .inl ⟨h1, hq⟩
    · obtain ⟨d, e', q1, q2, q3, q4, rfl⟩ := eqP_ok rm rx ry e
      exact .inr ⟨d, e', q1, q2, q3, q4, hq⟩
  · exact h.elim
theorem rep_isNon {K : PySem.W.Frag} {H : Hp} {m : List Addr} {x : D} {v : V} (rx : rep K H m x v) : decide (v = .non) = isNon x := by
  unfold isNon
  split
  · rw [rep_non.mp rx]; rfl
  · rename_i hn
    refine decide_eq_false fun e => ?_
    subst e
    cases x with
    | t x => cases x <;> simp only [rep, repT] at rx <;> first | exact hn rfl | (obtain ⟨_, _, z, _⟩ := rx; exact nomatch z) | (obtain ⟨_, z, _⟩ := rx; exact nomatch z) | exact nomatch rx
    | ref c => simp only [rep] at rx; obtain ⟨_, _, z⟩ := rx; cases z
    | tp ds => simp only [rep] at rx; obtain ⟨_, _, z, _⟩ := rx; cases z
theorem isNon_of {K : PySem.W.Frag} {H : Hp} {m : List Addr} {x : D} {v : V} (h : isNon x = true) (rx : rep K H m x v) : v = .non := by
  unfold isNon at h
  split at h
  · exact rep_non.mp rx
  · cases h
theorem opA_isN : OpA X (compareOp .Is) (cmpD .isN) := by
  refine ⟨_, OpR.or op_isN op_is_bl, fun x y v w H H0 m μ Q P E rm rx ry h hP => ?_⟩
  simp only [cmpD] at h
  split at h
  · rename_i e
    refine .inl ⟨isNon_of e ry, ?_⟩
    rw [rep_isNon rx]
    exact (hP _ _ h).scal rm (rep_bl.mpr rfl)
  · split at h
    · rename_i a b _
      refine .inr ⟨a, b, rep_bl.mp rx, rep_bl.mp ry, ?_⟩
      have e : decide (a = b) = (a == b) := by cases a <;> cases b <;> rfl
      rw [e]
      exact (hP _ _ h).scal rm (rep_bl.mpr rfl)
    · exact h.elim
theorem opA_notN : OpA X (compareOp .IsNot) (cmpD .notN) := by
  refine ⟨_, OpR.or op_notN op_isnot_bl, fun x y v w H H0 m μ Q P E rm rx ry h hP => ?_⟩
  simp only [cmpD] at h
  split at h
  · rename_i e
    refine .inl ⟨isNon_of e ry, ?_⟩
    rw [rep_isNon rx]
    exact (hP _ _ h).scal rm (rep_bl.mpr rfl)
  · split at h
    · rename_i a b _
      refine .inr ⟨a, b, rep_bl.mp rx, rep_bl.mp ry, ?_⟩
      have e : decide (a = b) = (a == b) := by cases a <;> cases b <;> rfl
      rw [e]
      exact (hP _ _ h).scal rm (rep_bl.mpr rfl)
    · exact h.elim

/-! ### in -/
theorem keyOf_ok {K : PySem.W.Frag} {H : Hp} {m : List Addr} {x : D} {v : V} {k : Key} (h : keyOf x = some k) (r : rep K H m x v) : v = kV k := by
  unfold keyOf at h
  split at h
  · cases h; rw [rep_int.mp r]; rfl
  · cases h; rw [rep_str.mp r]; rfl
  · cases h
theorem keysOf_ok {K : PySem.W.Frag} {H : Hp} : ∀ {ts : List T} {vs : List V} {k : List Key}, keysOf ts = some k → repTs K H ts vs → vs = k.map kV
  | [], _, k, h, r => by
    simp only [keysOf, Option.some.injEq] at h
    simp only [repTs] at r
    subst h; subst r; rfl
  | .int i :: ts, _, k, h, r => by
    simp only [keysOf, Option.map_eq_some_iff] at h
    obtain ⟨q, h1, rfl⟩ := h
    simp only [repTs, repT] at r
    obtain ⟨v, r', rfl, rfl, r2⟩ := r
    rw [keysOf_ok h1 r2]; rfl
  | .str i :: ts, _, k, h, r => by
    simp only [keysOf, Option.map_eq_some_iff] at h
    obtain ⟨q, h1, rfl⟩ := h
    simp only [repTs, repT] at r
    obtain ⟨v, r', rfl, rfl, r2⟩ := r
    rw [keysOf_ok h1 r2]; rfl
  | .non :: ts, _, k, h, r => by simp [keysOf] at h
  | .bl _ :: ts, _, k, h, r => by simp [keysOf] at h
  | .lst _ :: ts, _, k, h, r => by simp [keysOf] at h
  | .tup _ :: ts, _, k, h, r => by simp [keysOf] at h
  | .dct _ :: ts, _, k, h, r => by simp [keysOf] at h
  | .dcT _ :: ts, _, k, h, r => by simp [keysOf] at h
  | .scr _ :: ts, _, k, h, r => by simp [keysOf] at h
theorem keyTOf_ok {K : PySem.W.Frag} {H : Hp} {m : List Addr} {x : D} {v : V} {k : List Key} (h : keyTOf x = some k) (r : rep K H m x v) : ∃ b, v = .ref b ∧ H b = some (.tup (k.map kV)) := by
  unfold keyTOf at h
  split at h
  · simp only [rep, repT] at r
    obtain ⟨a, vs, rfl, h1, h2⟩ := r
    rw [keysOf_ok h h2] at h1
    exact ⟨a, rfl, h1⟩
  · cases h
/-- what a dict holds -/
theorem RelM.dget {K : PySem.W.Frag} {H H0 : Hp} {m : List Addr} {μ : Mem} {x y : D} {v w : V} {kds : List (Key × D)} {k : Key} (rm : RelM K H H0 m μ) (rx : rep K H0 m x v) (ry : rep K H0 m y w) (h1 : dctOf μ x = some kds) (h2 : keyOf y = some k) :
    ∃ a o, v = .ref a ∧ DGet H a w o ∧ (match getK kds k with | some d => ∃ z, o = some z ∧ rep K H0 m d z | none => o = none) := by
  obtain ⟨a, kvs, rfl, e, r⟩ := rm.dct rx h1
  rw [keyOf_ok h2 ry]
  exact ⟨a, valV kvs k, rfl, DGet.k e, repK_get r⟩
theorem RelM.dgetT {K : PySem.W.Frag} {H H0 : Hp} {m : List Addr} {μ : Mem} {x y : D} {v w : V} {kds : List (List Key × D)} {k : List Key} (rm : RelM K H H0 m μ) (rx : rep K H0 m x v) (ry : rep K H0 m y w) (h1 : dctTOf μ x = some kds) (h2 : keyTOf y = some k) :
    ∃ a o, v = .ref a ∧ DGet H a w o ∧ (match getK kds k with | some d => ∃ z, o = some z ∧ rep K H0 m d z | none => o = none) := by
  obtain ⟨a, kvs, rfl, e, r⟩ := rm.dctT rx h1
  obtain ⟨b, rfl, eb⟩ := keyTOf_ok h2 ry
  exact ⟨a, valV kvs k, rfl, DGet.t e (rm.same _ _ eb), repK_get r⟩
def rDIn (neg : Bool) : R2 := fun y x H Q => ∃ a o, x = .ref a ∧ DGet H a y o ∧ Q (.bl (if neg then !o.isSome else o.isSome)) H
theorem op_inD (hu : X.A.units + 1 < cLine) : OpR X (compareOp .In) (rDIn false) := by
  intro pins s σ H x y v u Q I rx ry h
  obtain ⟨a, o, rfl, g, q⟩ := h
  cases ry
  exact d_in hu I g rx fun s' I' => ⟨.bl o.isSome, H, I', rfl, q⟩
theorem op_ninD (hu : X.A.units + 1 < cLine) : OpR X (compareOp .NotIn) (rDIn true) := by
  intro pins s σ H x y v u Q I rx ry h
  obtain ⟨a, o, rfl, g, q⟩ := h
  cases ry
  exact d_notIn hu I g rx fun s' I' => ⟨.bl (!o.isSome), H, I', rfl, q⟩
theorem flatT_ok {K : PySem.W.Frag} {H : Hp} {t : T} {v : V} (h : flatT t = true) (r : repT K H t v) : flatV v = true := by
  cases t <;> simp only [repT] at r <;> first | (subst r; rfl) | (simp [flatT] at h)
theorem eqF_ok {K : PySem.W.Frag} {H : Hp} {a b : T} {v w : V} (ha : flatT a = true) (hb : flatT b = true) (ra : repT K H a v) (rb : repT K H b w) : eqV v w = eqF a b := by
  cases a <;> simp only [flatT] at ha <;> (try cases ha) <;> cases b <;> simp only [flatT] at hb <;> (try cases hb) <;> simp only [repT] at ra rb <;> subst ra <;> subst rb <;> simp only [eqV, eqF]
  rw [Bool.eq_iff_iff]; simp
theorem inV_ok {K : PySem.W.Frag} {H : Hp} {x : T} {v : V} (hx : flatT x = true) (rx : repT K H x v) : ∀ {ts : List T} {vs : List V}, ts.all flatT = true → repTs K H ts vs → inV v vs = (ts.any fun y => eqF y x) ∧ vs.all flatV = true
  | [], _, _, r => by
    simp only [repTs] at r
    subst r
    exact ⟨rfl, rfl⟩
  | t :: ts, _, h, r => by
    simp only [repTs] at r
    obtain ⟨w, q, rfl, r1, r2⟩ := r
    simp only [List.all_cons, Bool.and_eq_true] at h
    obtain ⟨i1, i2⟩ := inV_ok hx rx h.2 r2
    unfold inV at i1 ⊢
    simp only [List.any_cons, List.all_cons, i1, i2, eqF_ok h.1 hx r1 rx, flatT_ok h.1 r1, Bool.and_self, and_self]
theorem mem_ok {K : PySem.W.Frag} {H H0 : Hp} {m : List Addr} {μ : Mem} {x y : D} {v w : V} {b neg : Bool} {Q : VK} (rm : RelM K H H0 m μ) (rx : rep K H0 m x v) (ry : rep K H0 m y w) (h : memD x y μ = some b) (q : Q (.bl (if neg then !b else b)) H) :
    rDIn neg v w H Q ∨ rIn K neg v w H Q ∨ rMemP K neg v w H Q := by
  unfold memD at h
  split at h
  · rename_i kds e1
    split at h
    · rename_i k e2
      cases h
      obtain ⟨a, o, rfl, g, r⟩ := rm.dget ry rx e1 e2
      refine .inl ⟨a, o, rfl, g, ?_⟩
      have e : o.isSome = (getK kds k).isSome := by
        split at r
        · rename_i d e3
          obtain ⟨z, rfl, _⟩ := r
          rw [e3]; rfl
        · rename_i e3
          subst r
          rw [e3]; rfl
      rw [e]; exact q
    · cases h
  · split at h
    · rename_i kds e1
      split at h
      · rename_i k e2
        cases h
        obtain ⟨a, o, rfl, g, r⟩ := rm.dgetT ry rx e1 e2
        refine .inl ⟨a, o, rfl, g, ?_⟩
        have e : o.isSome = (getK kds k).isSome := by
          split at r
          · rename_i d e3
            obtain ⟨z, rfl, _⟩ := r
            rw [e3]; rfl
          · rename_i e3
            subst r
            rw [e3]; rfl
        rw [e]; exact q
      · cases h
    · split at h
      · rename_i ds e1
        split at h
        · rename_i x' ts e2
          split at h
          · rename_i hf
            cases h
            simp only [Bool.and_eq_true] at hf
            have fin : ∀ vs, reps K H0 m ds vs → inV v vs = (ts.any fun y => eqF y x') ∧ vs.all flatV = true := fun vs rv => by
              rw [toTs_map e2, ← repT_ts] at rv
              simp only [rep] at rx
              exact inV_ok hf.1 rx hf.2 rv
            simp only [rep] at rx
            have fx := flatT_ok hf.1 rx
            refine .inr (.inl ?_)
            cases e3 : lstOf μ y with
            | some l =>
              rw [e3] at e1
              cases e1
              obtain ⟨a, vs, rfl, h1, r1⟩ := rm.lst ry e3
              obtain ⟨f1, f2⟩ := fin vs r1
              exact ⟨a, vs, rfl, .inl h1, fx, f2, by rw [f1]; exact q⟩
            | none =>
              rw [e3] at e1
              obtain ⟨a, vs, rfl, h1, r1⟩ := rm.tup ry e1
              obtain ⟨f1, f2⟩ := fin vs r1
              exact ⟨a, vs, rfl, .inr (.of h1), fx, f2, by rw [f1]; exact q⟩
          · obtain ⟨d, ds', q1, q2, q3, q4, q5, rfl⟩ := memP_ok rm rx ry h
            exact .inr (.inr ⟨d, ds', q1, q2, q3, q4, q5, q⟩)
        · cases h
      · cases h
theorem opA_mem (hu : X.A.units + 64 < cLine) : OpA X (compareOp .In) (cmpD .mem) := by
  refine ⟨_, OpR.or (op_inD (by omega)) (OpR.or op_in_seq (op_memP hu)), fun x y v w H H0 m μ Q P E rm rx ry h hP => ?_⟩
  simp only [cmpD] at h
  split at h
  · rename_i b e
    exact mem_ok (neg := false) rm rx ry e ((hP _ _ h).scal rm (rep_bl.mpr rfl))
  · exact h.elim
theorem opA_nmem (hu : X.A.units + 64 < cLine) : OpA X (compareOp .NotIn) (cmpD .nmem) := by
  refine ⟨_, OpR.or (op_ninD (by omega)) (OpR.or op_notIn_seq (op_memPN hu)), fun x y v w H H0 m μ Q P E rm rx ry h hP => ?_⟩
  simp only [cmpD] at h
  split at h
  · rename_i b e
    exact mem_ok (neg := true) rm rx ry e ((hP _ _ h).scal rm (rep_bl.mpr rfl))
  · exact h.elim
def copOf : Cop → CmpOp
  | .eq => .Eq | .ne => .NotEq | .lt => .Lt | .le => .LtE | .gt => .Gt | .ge => .GtE | .isN => .Is | .notN => .IsNot | .mem => .In | .nmem => .NotIn
theorem opA_cmp (hu : X.A.units + 64 < cLine) (op : Cop) : OpA X (compareOp (copOf op)) (cmpD op) := by
  cases op
  · exact opA_eq hu
  · exact opA_ne hu
  · exact opA_lt (by omega)
  · exact opA_le (by omega)
  · exact opA_gt
  · exact opA_ge
  · exact opA_isN
  · exact opA_notN
  · exact opA_mem (by omega)
  · exact opA_nmem (by omega)

/-! ### items -/
theorem idx_seq {n : Nat} {i : Int} : idx n i = ixN n i := rfl
theorem ix_dict (hu : X.A.units + 1 < cLine) : IxR X (fun x y H Q => ∃ a v, x = .ref a ∧ DGet H a y (some v) ∧ Q v H) := by
  intro value slice pins s σ H x y v u Q I rx ry h hs
  obtain ⟨a, z, rfl, g, q⟩ := h
  cases rx
  exact tail_any (dict_typeIs I g) PySem.F.slot_dict_getitem.lookup (d_getItem hu I g ry fun w' s' I' r' => ⟨z, H, I', r', q⟩) hs
theorem ixA (hu : X.A.units + 1 < cLine) : ∃ r, IxR X r ∧ ∀ (x y : D) (v w : V) (H H0 : Hp) (m : List Addr) (μ : Mem) (Q : VK) (P : D → Mem → Prop) (E : Exn → Mem → Prop),
    RelM X.K H H0 m μ → rep X.K H0 m x v → rep X.K H0 m y w → Sat (ixD x y μ) P E → (∀ d μ, P d μ → PostE X.K Q H H0 m d μ) → r v w H Q := by
  refine ⟨_, (ix_dict hu).or (ix_list.or ix_tup), fun x y v w H H0 m μ Q P E rm rx ry h hP => ?_⟩
  unfold ixD at h
  split at h
  · rename_i kds e1
    split at h
    · rename_i k e2
      obtain ⟨a, o, rfl, g, r⟩ := rm.dget rx ry e1 e2
      split at h
      · rename_i d e3
        rw [e3] at r
        obtain ⟨z, rfl, rz⟩ := r
        exact .inl ⟨a, z, rfl, g, (hP _ _ h).scal rm rz⟩
      · exact h.elim
    · exact h.elim
  · split at h
    · rename_i kds e1
      split at h
      · rename_i k e2
        obtain ⟨a, o, rfl, g, r⟩ := rm.dgetT rx ry e1 e2
        split at h
        · rename_i d e3
          rw [e3] at r
          obtain ⟨z, rfl, rz⟩ := r
          exact .inl ⟨a, z, rfl, g, (hP _ _ h).scal rm rz⟩
        · exact h.elim
      · exact h.elim
    · split at h
      · rename_i ds i e1 e2
        split at h
        · rename_i d e3
          rw [idx_seq] at e3
          obtain ⟨j, j1, j2⟩ := Option.bind_eq_some_iff.mp e3
          have wi := toI_int e2 ry
          have at_ : ∀ vs, reps X.K H0 m ds vs → ∃ z, atI vs i = some z ∧ rep X.K H0 m d z := fun vs rv => by
            obtain ⟨z, z1, z2⟩ := reps_get rv j2
            refine ⟨z, ?_, z2⟩
            unfold atI
            rw [← reps_len rv, j1]
            exact z1
          cases e4 : lstOf μ x with
          | some l =>
            rw [e4] at e1
            cases e1
            obtain ⟨a, vs, rfl, h1, r1⟩ := rm.lst rx e4
            obtain ⟨z, z1, z2⟩ := at_ vs r1
            exact .inr (.inl ⟨a, vs, i, z, rfl, wi, h1, z1, (hP _ _ h).scal rm z2⟩)
          | none =>
            rw [e4] at e1
            obtain ⟨a, vs, rfl, h1, r1⟩ := rm.tup rx e1
            obtain ⟨z, z1, z2⟩ := at_ vs r1
            exact .inr (.inr ⟨a, vs, i, z, rfl, wi, .of h1, z1, (hP _ _ h).scal rm z2⟩)
        · exact h.elim
      · exact h.elim
theorem reps_cut {K : PySem.W.Frag} {H : Hp} {m : List Addr} {ds : List D} {vs : List V} (r : reps K H m ds vs) (lo hi : Option Int) : reps K H m (cutD ds lo hi) (cutV vs lo hi) := by
  unfold cutD cutV sIx
  rw [reps_len r]
  exact reps_take _ (reps_drop _ r)
def rSlLA (K : PySem.W.Frag) : V → Option Int → Option Int → Hp → VK → Prop := fun x lo hi H Q => rSlL K x lo hi H Q ∨ rSlA K x lo hi H Q
theorem sl_LA : SlR X (rSlLA X.K) := by
  intro pins s σ H x v vl vu lo hi sl Q I rx hs pl pu h
  rcases h with h | h
  · exact sl_list pins s σ H x v vl vu lo hi sl Q I rx hs pl pu h
  · exact sl_tupA pins s σ H x v vl vu lo hi sl Q I rx hs pl pu h
theorem slcA (fz : Bool) : SlR X (rSlLA X.K) ∧ ∀ (x : D) (v : V) (lo hi : Option Int) (H H0 : Hp) (m : List Addr) (μ : Mem) (Q : VK) (P : D → Mem → Prop) (E : Exn → Mem → Prop),
    RelM X.K H H0 m μ → rep X.K H0 m x v → Sat (slcD fz x lo hi μ) P E → (∀ d μ, P d μ → PostE X.K Q H H0 m d μ) → rSlLA X.K v lo hi H Q := by
  refine ⟨sl_LA, fun x v lo hi H H0 m μ Q P E rm rx h hP => ?_⟩
  unfold slcD at h
  split at h
  · rename_i ds e
    obtain ⟨a, vs, rfl, h1, r1⟩ := rm.lst rx e
    exact .inl ⟨a, vs, rfl, h1, (mkL_ok rm (reps_cut r1 lo hi) h hP).2⟩
  · split at h
    · rename_i ts _
      have rx' := rx
      simp only [rep, repT] at rx'
      obtain ⟨a, vs, rfl, h1, r1⟩ := rx'
      have r2 : reps X.K H0 m (ts.map D.t) vs := by rwa [← repT_ts]
      refine .inr ⟨a, vs, rfl, .of (rm.same _ _ h1), fun hw => ?_, fun _ => (mkTup_ok (Q := Q) rm (reps_cut r2 lo hi) h hP).2⟩
      have hl : (ts.map D.t).length = vs.length := reps_len r2
      have ec : cutD (ts.map D.t) lo hi = ts.map D.t := by
        unfold cutD sIx
        rw [hl, hw.1, hw.2, List.drop_zero, Nat.sub_zero, List.take_of_length_le (by omega)]
      rw [ec] at h
      unfold mkTup at h
      split at h
      · rw [toTs_of] at h
        exact (hP _ _ h).scal rm rx
      · exact h.elim
    · exact h.elim
end
end MI
/-! MIX: rules by values that the hand layer has not. -/
namespace MI
open PySem PySem.Spec PyProof.Rows L2
section
variable {X : Cx}
/-- l.remove(y), what stands in l read as data -/
def rRemD (K : PySem.W.Frag) : V → List V → Hp → VK → Prop := fun x vs H Q => ∃ (l : Addr) (xs : List V) (y : V) (ds : List PyData) (d : PyData) (j : Nat), x = .ref l ∧ vs = [y] ∧ H l = some (.lst xs) ∧ DpAll K H xs ds ∧ Dp K H y d ∧
  PyData.plainAll ds = true ∧ d.plain = true ∧ d.depth ≤ 62 ∧ SeqAt.dataPlace ds d = some j ∧ Q .non (upd H l (.lst (xs.eraseIdx j)))
theorem mt_removeD (hu : X.A.units + 64 < cLine) : MtR X "list.remove" (rRemD X.K) := by
  intro pins s σ H x vs v us Q I rx rv h
  obtain ⟨l, xs, y, ds, d, j, rfl, rfl, hH, hx, hy, px, pd, dd, hp, q⟩ := h
  cases rx
  obtain ⟨u, rfl, ru⟩ := rv.one
  obtain ⟨z, its, n, r, hl, e⟩ := I.lstM hH
  obtain ⟨bs, r1⟩ := Dp.reads I d y u hy ru
  obtain ⟨as, r2⟩ := Dp.readsAll I ds xs its hx r
  have hm := Nat.min_le_right (PyData.depthAll ds) d.depth
  refine SeqAt.remove_list_data (vs := its.toArray) ⟨_, e, rfl, n, rfl⟩ r2 r1 px pd (by omega) hp (by rw [List.size_toArray]; omega) ?_
  refine ⟨.non, _, I.lset (its' := its.eraseIdx j) (t' := s.toks) hH e ?_ (r.eraseIdx j) ?_, rfl, q⟩
  · show its.toArray.eraseIdxIfInBounds j = (its.eraseIdx j).toArray
    rw [List.eraseIdxIfInBounds_toArray]
  · have := List.length_eraseIdx_le xs j
    omega
/-- sorted(l, reverse=True), pairs of ints -/
def rSortedPR (K : PySem.W.Frag) : List V → List V → Hp → VK → Prop := fun vs zs H Q => ∃ (a : Addr) (xs : List V) (k : V → Int × Int), vs = [V.ref a] ∧ zs = [.bl true] ∧ SqL K H a xs ∧ (∀ x ∈ xs, ∃ t, x = V.ref t ∧ H t = some (.tup [.int (k x).1, .int (k x).2])) ∧
  ∀ ys p, SrtO.Srtd (ltP k) ys → ys.Perm xs → H p = none → Q (.ref p) (upd H p (.lst ys.reverse))
theorem cr_sortedPR : CallRK X (.builtin "sorted") [Str.ofString "reverse"] (rSortedPR X.K) := by
  intro pins s σ H vs zs us ws Q I r rz h
  obtain ⟨a, xs, k, rfl, rfl, hs, hx, q⟩ := h
  obtain rfl := Vals.ref1 r
  obtain ⟨w1, rfl, e0⟩ := vals1 rz
  obtain rfl : w1 = Value.bool true := e0
  obtain ⟨its, rv, hl, hz⟩ := I.list hs
  obtain ⟨e1, e2⟩ := refs_back rv fun x m => by
    obtain ⟨t, e, _⟩ := hx x m
    exact ⟨t, e⟩
  have hp : ∀ v ∈ its, Srt.IsPair s.heap v (k (backV v)).1 (k (backV v)).2 := fun v hv => by
    obtain ⟨t, rfl⟩ := e2 v hv
    obtain ⟨t', e, ht⟩ := hx (V.ref t) (by rw [e1]; exact List.mem_map.mpr ⟨_, hv, rfl⟩)
    cases e
    obtain ⟨_, its2, r2, o, ho, hc, n, hd⟩ := I.hok _ _ ht
    obtain ⟨u1, u2, rfl, ri, rj⟩ := vals2 r2
    obtain ⟨t1, rfl⟩ := ri
    obtain ⟨t2, rfl⟩ := rj
    exact ⟨t, o, t1, t2, n, rfl, ho, hc, hd⟩
  refine SrtR.sorted_ordK (b := true) (kw := [(Str.ofString "reverse", .bool true)]) (fun _ => rfl) (PyProof.Rows.args_sorted_rev _ _) (fun _ => PyProof.Rows.args_list_sort_rev _ _) (SrtO.swo_lex fun u => k (backV u)) hl.isList (by rw [← rv.length]; exact hz)
    (fun h2 h1 a' ho keep => SrtO.pairs_sortableO (by omega) (fun v hv => (hp v hv).keeps fun b o e _ => (keep b o e).2) fun o e => ?_) fun out h1 h2 => ?_
  · have e' : some o = some (seqObj "list" its.toArray 0) := e.symm.trans ho
    cases e'
    intro z
    injection z with z
    exact absurd z (by decide)
  · have hp2 : out.Perm its := h2.perm.trans (List.reverse_perm _)
    have h3 : ∀ u ∈ out.reverse, ∃ a, u = Value.ref a := fun u hu => e2 u (hp2.mem_iff.mp (List.mem_reverse.mp hu))
    have hb : (out.map backV).Perm xs := by
      rw [e1]
      exact hp2.map backV
    obtain ⟨ep, he'⟩ := PyProof.Rows.sortedAll_at s.heap its out.toArray.reverse
    have er : (out.map backV).reverse = out.reverse.map backV := by rw [List.map_reverse]
    have ea : out.reverse.toArray = out.toArray.reverse := by
      apply Array.ext'
      rw [Array.toList_reverse]
    have hlen : (out.map backV).reverse.length ≤ sizeLine := by
      rw [List.length_reverse, hb.length_eq]
      exact hz
    exact ⟨.ref _, upd H (s.heap.objs.size + 1) (.lst (out.map backV).reverse), I.laid (t' := s.toks) (fun _ _ => PyProof.Rows.sortedAll_old) (Nat.le_succ _) ⟨hlen, out.reverse, ep, by rw [er]; exact vals_back h3, by rw [ea]; exact he'⟩, rfl, q _ _ (SrtO.srtd_map h1) hb (I.hok.fresh (Nat.le_succ _))⟩
end
end MI
/-! MIY: set(list), max(list, default=), min(list, default=), by values. -/
namespace MI
open PySem PySem.Spec PyProof.Rows L2
section
variable {P : Program} {w : World} {A : Around} {E : Value → Shared → Prop} {s : Shared}
abbrev emptySet (w : World) : Obj := { cls := .type "set", dict := none, data := .set #[] 0 (.fresh 0 0 (!w.params.followText "set-order")) }
set_option maxHeartbeats 3200000 in
/-- set(l) of a list of ints: as the kit has it for a tuple, with the members known -/
theorem set_of_list {l : Addr} {items : Array Value} (ns : List Int) {Q : Value → Shared → Prop} (hh : A.handled = none) (hl : s.heap.IsList l items) (hit : IntsAre items.toList ns) (hb : ns.length + 1 < scanBound)
    (h : ∀ (h' : Heap) (tk c : Nat), SetR w h' s.heap.objs.size (fun j => decide (j ∈ ns)) c → c ≤ ns.length → (∀ b o, s.heap.get? b = some o → h'.get? b = some o) → Q (.ref s.heap.objs.size) { s with heap := h', toks := tk }) :
    wpAny (model P w) A (call (.type "set") [.ref l]) Q E s := by
  have hisz : items.size = ns.length := by rw [← Array.length_toList]; exact IntsAre.length hit
  obtain ⟨c, tl, hmro⟩ := F.called_set.mro
  have hmade := F.called_set.made
  have hsub := F.called_set.sub
  have h1 := F.called_set.notType
  have h2 := F.called_set.canCreate
  have hct := F.typeCall_set_1 (.ref l)
  refine wpAny_call (codeAny_of_tree ?_)
  show wpAny _ _ (callAny (.type "set") _) _ _ _
  refine wpAny_pure ⟨Code.quiet_builtin _ (by decide +kernel), codeAny_builtin F.entry_type_call ?_⟩
  rw [Around.under_plain (weight_type_call_type "set" [.ref l] []) rfl]
  repeat (any_goals (first | assumption | wp_step))
  refine codeAny_mono (code_set_led1 (.ref l) (E := E) (Q₁ := fun obj s₁ => obj = .ref s.heap.objs.size ∧ s₁ = { s with heap := s.heap.push (emptySet w) }) ⟨rfl, rfl⟩) fun r s₁ hr => ?_
  rcases r with e | fl
  · exact hr
  cases fl with
  | ret obj =>
    obtain ⟨rfl, rfl⟩ := hr
    have hS : (s.heap.push (emptySet w)).get? s.heap.objs.size = some (emptySet w) := Heap.get?_push_size _ rfl
    have hT : Shared.TypeIs { s with heap := s.heap.push (emptySet w) } (.ref s.heap.objs.size) "set" := ⟨_, hS, rfl⟩
    have hli := F.called_set.init.lookup
    have hbi := F.called_set.init.bind (.ref s.heap.objs.size)
    repeat (any_goals (first | assumption | wp_step))
    refine codeAny_mono (codeAny_call_builtin (R := wants (fun r s₂ => r = .none ∧ ∃ h' tk c, s₂ = { s with heap := h', toks := tk } ∧ SetR w h' s.heap.objs.size (fun j => decide (j ∈ ns)) c ∧ c ≤ ns.length ∧ (∀ b o, s.heap.get? b = some o → h'.get? b = some o)) E) F.called_set.init.plain F.entry_set_init (check_set_init_1 hT ?_)) fun r₂ s₂ hr₂ => ?_
    · obtain ⟨ol, hol, hcl, nl, hdl⟩ := hl
      have hlS : l < s.heap.objs.size := Heap.lt_size hol
      obtain ⟨ocls, odict, odata, oslots⟩ := ol
      simp only at hcl hdl
      subst hcl
      subst hdl
      have hol' : (s.heap.push (emptySet w)).get? l = some { cls := .type "list", dict := odict, data := .seq items nl, slots := oslots } := Heap.get?_push_of_some _ hol
      have hl1 : (s.heap.push (emptySet w)).IsList l items := ⟨_, hol', rfl, nl, rfl⟩
      have hsls := F.sub_list_set
      have hslf := F.sub_list_frozenset
      have hne : (Value.type "list" == Value.type "dict") = false := by decide
      unfold Builtin.«set.__init__» noKeywords Builtin.Frozenset.updateFrom
      generalize hPI : pyIter = PI
      wp_walk
      subst hPI
      refine wpAny_pyIter_list hl1 (wpAny_bind (wpAny_runValue ?_))
      have hh3 : A.in1.in1.in1.handled = none := by simp [hh]
      have hneI : l ≠ (s.heap.push (emptySet w)).objs.size := by rw [Heap.size_push]; exact Nat.ne_of_lt (Nat.lt_succ_of_lt hlS)
      have hSf : s.heap.objs.size ∉ [(s.heap.push (emptySet w)).objs.size, l] := by
        rw [Heap.size_push]
        simp only [List.mem_cons, List.not_mem_nil, or_false, not_or]
        exact ⟨Nat.ne_of_lt (Nat.lt_succ_self _), Nat.ne_of_gt hlS⟩
      have hval : ∀ (i : Nat) (v : Value), items[i]? = some v → ∃ k t, ns[i]? = some k ∧ v = .int k t := fun i v hv => by
        have hi : i < ns.length := by rw [← hisz]; exact (Array.getElem?_eq_some_iff.mp hv).1
        obtain ⟨t, e⟩ := IntsAre.int_at hit i v (by rw [Array.getElem?_toList]; exact hv)
        rw [List.getD_eq_getElem?_getD, List.getElem?_eq_getElem hi] at e
        exact ⟨ns[i], t, List.getElem?_eq_getElem hi, e⟩
      refine set_update_ints ((Walks.list hh3 _ l hneI items).toS) s.heap.objs.size hSf ns hisz hb hval (items.size - 0) 0 _ (by omega) (Nat.zero_le _) ⟨⟨_, Heap.get?_push_size _ rfl, rfl, rfl⟩, (hl1.push _)⟩ ⟨0, Nat.le_refl 0, setR_new_at (Heap.get?_push_of_some _ hS)⟩ ?_
      intro s' c' hm hc' hS'
      have eg : s'.gens = s.gens := hm.gens
      have ed : s'.drawn = s.drawn := hm.drawn
      have eo : s'.os = s.os := hm.os
      obtain ⟨h', g2, d', tk', os'⟩ := s'
      simp only at eg ed eo
      subst eg
      subst ed
      subst eo
      show wpAny _ _ _ _ _ _
      refine wpAny_pure ?_
      show wpAny _ _ (ret Value.none) _ _ _
      refine wpAny_pure ⟨rfl, h', tk', c', rfl, hS', hisz ▸ hc', fun b o e => ?_⟩
      have hb0 : b < s.heap.objs.size := Heap.lt_size e
      refine hm.heap b o ?_ (Heap.get?_push_of_some _ (Heap.get?_push_of_some _ e))
      simp only [Heap.size_push, List.mem_cons, List.not_mem_nil, or_false, not_or]
      exact ⟨Nat.ne_of_lt hb0, Nat.ne_of_lt (Nat.lt_succ_of_lt hb0)⟩
    · rcases r₂ with e | fl₂
      · exact hr₂
      cases fl₂ with
      | ret r =>
        obtain ⟨rfl, h', tk, c', rfl, hS', hc', hk'⟩ := hr₂
        repeat (any_goals (first | assumption | wp_step))
        exact h _ _ _ hS' hc' hk'
      | _ => exact hr₂.elim
  | _ => exact hr.elim
end
section
variable {X : Cx}
def rSetOfL (K : PySem.W.Frag) (w : World) : List V → Hp → VK → Prop := fun vs H Q => ∃ (a : Addr) (ns : List Int), vs = [V.ref a] ∧ SqL K H a (ns.map V.int) ∧ ns.length + 1 < scanBound ∧
  ∀ (p : Addr) (c : Nat), c ≤ ns.length → H p = none → Q (.ref p) (upd H p (SetO w p (fun j => decide (j ∈ ns)) c))
theorem cr_setOfL (hc : X.calm = true) : CallR X (.type "set") (rSetOfL X.K X.w) := by
  intro pins s σ H vs us Q I r h
  obtain ⟨a, ns, rfl, hs, hz, q⟩ := h
  obtain ⟨its, rv, hl, _⟩ := I.list hs
  rw [Vals.ref1 r]
  refine set_of_list ns (I.ok.hd hc) hl.isList (by simpa using rv.ints) hz fun h' tk c R hc' hk => ?_
  exact ⟨.ref _, upd H s.heap.objs.size (SetO X.w s.heap.objs.size (fun j => decide (j ∈ ns)) c), I.laid (t' := tk) hk (Nat.le_refl _) (setO_new R), rfl, q _ c hc' (I.hok.fresh (Nat.le_refl _))⟩
/-- max(l, default=k), min(l, default=k) of ints -/
def rMxDf (K : PySem.W.Frag) (mx : Bool) : List V → List V → Hp → VK → Prop := fun vs zs H Q => ∃ (a : Addr) (ns : List Int) (k : Int), vs = [V.ref a] ∧ zs = [V.int k] ∧ SqL K H a (ns.map V.int) ∧ Q (.int (mxOf mx k ns)) H
theorem int_of_holds {h : Heap} {v : Value} {i : Int} (H : PySem.W.Holds h v i) : ∃ t, v = .int i t := by
  have := PySem.W.HoldAll.toInts (PySem.W.HoldAll.cons H PySem.W.HoldAll.nil)
  cases this with
  | cons n t _ => exact ⟨t, rfl⟩
theorem cr_mxDf (hc : X.calm = true) (hu : X.A.units + 64 < cLine) (mx : Bool) : CallRK X (.builtin (if mx = true then "max" else "min")) [Str.ofString "default"] (rMxDf X.K mx) := by
  intro pins s σ H vs zs us ws Q I r rz h
  obtain ⟨a, ns, k, rfl, rfl, hs, q⟩ := h
  obtain rfl := Vals.ref1 r
  obtain ⟨w1, rfl, e0⟩ := vals1 rz
  obtain ⟨its, rv, hl, _⟩ := I.list hs
  have hi : PySem.W.HoldAll s.heap its.toArray.toList ns := by simpa using PySem.W.HoldAll.of_ints (h := s.heap) rv.ints
  have hd : X.A.units + 1 + PySem.W.Datum.depth Int < cLine := by
    show X.A.units + 1 + 0 < cLine
    omega
  cases mx with
  | true =>
    refine PySem.W.max_list_datum_default (I.ok.hd hc) hl.isList hi hd (fun e h' tk hk => ?_) fun y ys i v h' tk e hv hv2 hk => ?_
    · subst e
      exact ⟨.int k, H, I.kept hk, e0, q⟩
    · subst e
      obtain ⟨t, rfl⟩ := int_of_holds hv2
      refine ⟨.int _, H, I.kept hk, ⟨t, rfl⟩, ?_⟩
      have e3 : PySem.W.maxOf y ys = mxOf true k (y :: ys) := by
        unfold PySem.W.maxOf mxOf
        simp only [PySem.W.DatumOrd.lt, decide_eq_true_eq, if_true]
      rw [e3]
      exact q
  | false =>
    refine PySem.W.min_list_datum_default (I.ok.hd hc) hl.isList hi hd (fun e h' tk hk => ?_) fun y ys i v h' tk e hv hv2 hk => ?_
    · subst e
      exact ⟨.int k, H, I.kept hk, e0, q⟩
    · subst e
      obtain ⟨t, rfl⟩ := int_of_holds hv2
      refine ⟨.int _, H, I.kept hk, ⟨t, rfl⟩, ?_⟩
      have e3 : PySem.W.minOf y ys = mxOf false k (y :: ys) := by
        unfold PySem.W.minOf mxOf
        simp only [PySem.W.DatumOrd.lt, decide_eq_true_eq, Bool.false_eq_true, if_false]
      rw [e3]
      exact q
end
end MI
/-! MI4: expressions. -/
namespace MI
open PySem PySem.Spec PyProof.Rows L2

/-! ### what an expression's head tells -/
def plX : Expr → Bool
  | .Name .. => true | .Constant .. => true | .BinOp .. => true | .UnaryOp .. => true | .Compare .. => true | .BoolOp .. => true | .IfExp .. => true
  | .Tuple .. => true | .List .. => true | .Dict .. => true | .Subscript .. => true | .Call .. => true | .ListComp .. => true | .Attribute .. => true
  | _ => false
def notLc : Expr → Bool
  | .ListComp .. => false
  | _ => true
def notTL : Expr → Bool
  | .Tuple .. => false | .List .. => false
  | _ => true
/-- isTrue reads its value -/
def valX : Expr → Bool
  | .UnaryOp .USub _ _ => true
  | .Name .. => true | .Constant .. => true | .BinOp .. => true | .Tuple .. => true | .List .. => true | .Dict .. => true | .Subscript .. => true | .Call .. => true | .ListComp .. => true | .Attribute .. => true
  | _ => false
/-- the receiver of a method -/
def rcvX : Expr → Bool
  | .Name .. => true | .Subscript .. => true | .Attribute .. => true | .Constant .. => true
  | _ => false
theorem starEach_pl {e : Expr} {es : List Expr} {env : Env} (h : plX e = true) : starEach (e :: es) env = (false, eval e env) :: starEach es env := by
  cases e <;> first | rfl | (exact nomatch h)
theorem starEach_any {env : Env} {pos : Pos} : ∀ {es : List Expr}, es.all plX = true → (backTo pos (starEach es env)).any (·.1) = false
  | [], _ => rfl
  | e :: es, h => by
    simp only [List.all_cons, Bool.and_eq_true] at h
    rw [starEach_pl h.1]
    have ih := starEach_any (env := env) (pos := pos) h.2
    unfold backTo at ih ⊢
    rw [List.map_cons, List.any_cons, ih]
    rfl
theorem nomarkX {b : Expr} {op : CmpOp} (h : plX b = true) : behindInMarks op b = false := by
  cases b <;> first | rfl | (exact nomatch h)
theorem plainIx {b : Expr} (h : plX b = true) : PlainIx b := fun o i => by
  cases b <;> first | rfl | (exact nomatch h)
theorem folded_pl {e : Expr} {env : Env} (h : plX e = true) : ∀ x, foldedSetIterable e env x = pure x := fun x => by
  cases e <;> first | rfl | (exact nomatch h)
theorem swaps_pl {e : Expr} {t : Option Expr} {l : Nat} {env : Env} (h : plX e = true) (h2 : notLc e = true) : swapsWith e t l env = pure false := by
  cases e
  case ListComp => simp [notLc] at h2
  case SetComp => exact nomatch h
  case DictComp => exact nomatch h
  all_goals rfl
theorem attr_pl {e : Expr} {f : Str} {env : Env} {w : Sem Value} (h : rcvX e = true) : attributeBase e f env w = w := by
  cases e <;> first | rfl | (exact nomatch h)
theorem isTrue_val {e : Expr} {env : Env} (h : valX e = true) : ∀ whole, isTrue e env whole = (do let v ← whole; standAt e.pos; holding [v] (truthy v)) := fun w => by
  cases e
  case UnaryOp op a p => cases op <;> first | rfl | (exact nomatch h)
  all_goals first | rfl | (exact nomatch h)

structure VEs (Γ : Gam) (k : Nat) (N : List Str) (sc : Sco) (xs : List Expr) (es : Es) : Prop where
  pl : xs.all plX = true
  run : ∀ X W, Gd Γ k N sc X W → ∃ t, PA X xs t ∧ AnsG reps X W t (evEs Γ.F es)
structure VT (Γ : Gam) (k : Nat) (N : List Str) (sc : Sco) (x : Expr) (e : E) : Prop where
  run : ∀ X W, Gd Γ k N sc X W → ∃ t, PT X x t ∧ AnsG eqR X W t (fun env => bnd (evE Γ.F e env) toB)
section
variable {Γ : Gam} {k : Nat} {N : List Str} {sc : Sco} {pos : Pos}
theorem Gd.hu {X : Cx} {W : WX} (g : Gd Γ k N sc X W) : X.A.units + 64 < cLine := g.room.units
def visB : Option NameKind → Bool
  | some .local => true | some .cell => true | some .free => true
  | _ => false
def locS (sc : Sco) (x : Str) : Bool := match sc.names.lookup x with
  | some .local => true
  | some .cell => sc.cf x
  | _ => false
def giB : Option NameKind → Bool
  | some .globalImplicit => true
  | _ => false
theorem Gd.vis {X : Cx} {W : WX} (g : Gd Γ k N sc X W) {x : Str} (h : visB (sc.names.lookup x) = true) : Vis X.env.scope x := by
  rw [g.hsc]
  unfold visB at h
  split at h
  · exact .inl (by assumption)
  · exact .inr (.inl (by assumption))
  · exact .inr (.inr (by assumption))
  · cases h
theorem Gd.loc {X : Cx} {W : WX} (g : Gd Γ k N sc X W) {x : Str} (h : locS sc x = true) : Loc X.env.scope x ∧ (X.fn x = true ∨ X.env.scope.names.lookup x = some .local) := by
  rw [g.hsc]
  unfold locS at h
  split at h
  · rename_i e
    exact ⟨.inl e, .inr e⟩
  · rename_i e
    exact ⟨.inr e, .inl (g.fn _ h)⟩
  · cases h
theorem Gd.gl {X : Cx} {W : WX} (g : Gd Γ k N sc X W) {x : Str} (h : giB (sc.names.lookup x) = true) : Gl X x := by
  unfold Gl Env.kindOf
  rw [g.hsc]
  unfold giB at h
  split at h
  · assumption
  · cases h
theorem ve_var {i : Nat} {x : Str} (h1 : N[i]? = some x) (h2 : visB (sc.names.lookup x) = true) (h3 : (x == ("__debug__" : Str)) = false) (h4 : (x == ("__classdict__" : Str)) = false) : VE Γ k N sc (.Name x pos) (.var i) := ⟨fun X W g => by
  refine ⟨_, pe_var (i := i) (by rw [g.hN]; exact h1) (g.vis h2) h3 h4, fun σ H env μ H0 m Q rm en h => ?_⟩
  simp only [evE] at h
  split at h
  · rename_i d e
    obtain ⟨v, e1, r1⟩ := en.get i d e
    exact ⟨v, e1, h v H H0 m rm Step.refl r1⟩
  · exact h.elim⟩
def cstB : Const → T → Bool
  | .none, .non => true
  | .bool a, .bl b => a == b
  | .int a, .int b => a == b
  | .str a, .str b => decide (a = b)
  | _, _ => false
theorem ve_cst {c : Const} {t : T} {j : Nat} (hc : cstB c t = true) : VE Γ k N sc (.Constant c j pos) (.cst t) := ⟨fun X W g => by
  unfold cstB at hc
  split at hc
  · exact ⟨_, pe_non, fun σ H env μ H0 m Q rm en h => h .non H H0 m rm Step.refl (rep_non.mpr rfl)⟩
  · rename_i a b
    have e : a = b := by simpa using hc
    subst e
    exact ⟨_, pe_bl, fun σ H env μ H0 m Q rm en h => h (.bl a) H H0 m rm Step.refl (rep_bl.mpr rfl)⟩
  · rename_i a b
    have e : a = b := by simpa using hc
    subst e
    exact ⟨_, pe_int, fun σ H env μ H0 m Q rm en h => h (.int a) H H0 m rm Step.refl (rep_int.mpr rfl)⟩
  · rename_i a b
    have e : a = b := by simpa using hc
    subst e
    exact ⟨_, pe_str, fun σ H env μ H0 m Q rm en h => h (.str a) H H0 m rm Step.refl (rep_str.mpr rfl)⟩
  · cases hc⟩
theorem ve_glo {x : Str} {t : T} (h1 : giB (sc.names.lookup x) = true) (h2 : (x, t) ∈ Γ.glo) (h3 : (x == ("__debug__" : Str)) = false) : VE Γ k N sc (.Name x pos) (.glo x t) := ⟨fun X W g => by
  obtain ⟨u, hm, r⟩ := g.glo x t h2
  have hv : ∃ v, RelV v u ∧ ∀ K H m, rep K H m (.t t) v := by
    cases t with
    | non => exact ⟨.non, r, fun _ _ _ => rep_non.mpr rfl⟩
    | bl b => exact ⟨.bl b, r, fun _ _ _ => rep_bl.mpr rfl⟩
    | int i => exact ⟨.int i, r, fun _ _ _ => rep_int.mpr rfl⟩
    | str s => exact ⟨.str s, r, fun _ _ _ => rep_str.mpr rfl⟩
    | lst _ => exact r.elim
    | tup _ => exact r.elim
    | dct _ => exact r.elim
    | dcT _ => exact r.elim
    | scr _ => exact r.elim
  obtain ⟨v, rv, hr⟩ := hv
  exact ⟨_, pe_glob (g.gl h1) hm rv h3, fun σ H env μ H0 m Q rm en h => h v H H0 m rm Step.refl (hr _ _ _)⟩⟩
theorem ve_bin {a b : Expr} {ea eb : E} {op : Bop} (ha : VE Γ k N sc a ea) (hb : VE Γ k N sc b eb) : VE Γ k N sc (.BinOp a (opOf op) b pos) (.bin op ea eb) := ⟨fun X W g => by
  obtain ⟨ta, pa, aa⟩ := ha.run X W g
  obtain ⟨tb, pb, ab⟩ := hb.run X W g
  obtain ⟨r, ho, hr⟩ := opA_bin (X := X) op
  refine ⟨_, pe_op ho pa pb, fun σ H env μ H0 m Q rm en h => ?_⟩
  simp only [evE] at h
  refine aa.bnd rm en h fun d μ1 v H1 H01 m1 rm1 s1 r1 en1 h1 => ?_
  refine ab.bnd rm1 en1 h1 fun e μ2 w H2 H02 m2 rm2 s2 r2 en2 h2 => ?_
  exact hr d e v w H2 H02 m2 μ2 Q _ _ rm2 (r1.step s2) r2 h2 fun x μ3 q => PostE.later (Q := Q) q (s1.trans s2)⟩
theorem ve_neg {a : Expr} {ea : E} (ha : VE Γ k N sc a ea) : VE Γ k N sc (.UnaryOp .USub a pos) (.neg ea) := ⟨fun X W g => by
  obtain ⟨ta, pa, aa⟩ := ha.run X W g
  refine ⟨_, pe_un un_neg pa, fun σ H env μ H0 m Q rm en h => ?_⟩
  simp only [evE] at h
  refine aa.bnd rm en h fun d μ1 v H1 H01 m1 rm1 s1 r1 en1 h1 => ?_
  split at h1
  · rename_i i e
    exact ⟨i, toI_int e r1, h1 _ _ _ _ rm1 s1 (rep_int.mpr rfl)⟩
  · exact h1.elim⟩
theorem cmp_ans {X : Cx} {W : WX} {a b : Expr} {ea eb : E} {op : Cop} (g : Gd Γ k N sc X W) (ha : VE Γ k N sc a ea) (hb : VE Γ k N sc b eb) (hm : plX b = true) :
    ∃ t, PE X (.Compare a [copOf op] [b] pos) t ∧ PT X (.Compare a [copOf op] [b] pos) (tTest t) ∧ Ans X W t (evE Γ.F (.cmp op ea eb)) := by
  obtain ⟨ta, pa, aa⟩ := ha.run X W g
  obtain ⟨tb, pb, ab⟩ := hb.run X W g
  obtain ⟨r, ho, hr⟩ := opA_cmp (X := X) g.hu op
  refine ⟨_, pe_cmpR ho pa pb (nomarkX hm), pt_cmpR ho pa pb (nomarkX hm), fun σ H env μ H0 m Q rm en h => ?_⟩
  simp only [evE] at h
  refine aa.bnd rm en h fun d μ1 v H1 H01 m1 rm1 s1 r1 en1 h1 => ?_
  refine ab.bnd rm1 en1 h1 fun e μ2 w H2 H02 m2 rm2 s2 r2 en2 h2 => ?_
  exact hr d e v w H2 H02 m2 μ2 Q _ _ rm2 (r1.step s2) r2 h2 fun x μ3 q => PostE.later (Q := Q) q (s1.trans s2)
theorem toB_some {d : D} {μ : Mem} {P : Bool → Mem → Prop} {E : Exn → Mem → Prop} (h : Sat (toB d μ) P E) : ∃ b, d = .t (.bl b) ∧ P b μ := by
  unfold toB at h
  split at h
  · exact ⟨_, rfl, h⟩
  · exact h.elim
/-- from the value's reading to the test's -/
theorem test_ans {X : Cx} {W : WX} {t : TE} {c : Envv → M D} (h : Ans X W t c) : AnsG eqR X W (tTest t) (fun env => bnd (c env) toB) := fun σ H env μ H0 m Q rm en hs => by
  show t σ H _
  refine h.bnd rm en hs fun d μ1 v H1 H01 m1 rm1 s1 r1 en1 h1 => ?_
  obtain ⟨b, rfl, q⟩ := toB_some h1
  exact ⟨b, rep_bl.mp r1, q b H1 H01 m1 rm1 s1 rfl⟩
theorem ve_cmp {a b : Expr} {ea eb : E} {op : Cop} (ha : VE Γ k N sc a ea) (hb : VE Γ k N sc b eb) (hm : plX b = true) : VE Γ k N sc (.Compare a [copOf op] [b] pos) (.cmp op ea eb) := ⟨fun X W g =>
  let ⟨t, h1, _, h3⟩ := cmp_ans g ha hb hm
  ⟨t, h1, h3⟩⟩
theorem vt_cmp {a b : Expr} {ea eb : E} {op : Cop} (ha : VE Γ k N sc a ea) (hb : VE Γ k N sc b eb) (hm : plX b = true) : VT Γ k N sc (.Compare a [copOf op] [b] pos) (.cmp op ea eb) := ⟨fun X W g =>
  let ⟨t, _, h2, h3⟩ := cmp_ans g ha hb hm
  ⟨_, h2, test_ans h3⟩⟩
theorem lastMarks_pl {op op' : CmpOp} {b c : Expr} (h1 : plX c = true) : lastMarks [op, op'] [b, c] = false := by
  show behindInMarks op' c = false
  exact nomarkX h1
theorem chn_ans {X : Cx} {W : WX} {a b c : Expr} {ea eb ec : E} {p q : Cop} (g : Gd Γ k N sc X W) (ha : VE Γ k N sc a ea) (hb : VE Γ k N sc b eb) (hc : VE Γ k N sc c ec) (hm : plX c = true) :
    ∃ t, PE X (.Compare a [copOf p, copOf q] [b, c] pos) t ∧ PT X (.Compare a [copOf p, copOf q] [b, c] pos) (tTest t) ∧ Ans X W t (evE Γ.F (.chn p q ea eb ec)) := by
  obtain ⟨ta, pa, aa⟩ := ha.run X W g
  obtain ⟨tb, pb, ab⟩ := hb.run X W g
  obtain ⟨tc, pc, ac⟩ := hc.run X W g
  obtain ⟨r, ho, hr⟩ := opA_cmp (X := X) g.hu p
  obtain ⟨r', ho', hr'⟩ := opA_cmp (X := X) g.hu q
  refine ⟨_, pe_chain ho ho' pa pb pc (lastMarks_pl hm), pt_chain ho ho' pa pb pc (lastMarks_pl hm), fun σ H env μ H0 m Q rm en h => ?_⟩
  simp only [evE] at h
  refine aa.bnd rm en h fun d μ1 v H1 H01 m1 rm1 s1 r1 en1 h1 => ?_
  refine ab.bnd rm1 en1 h1 fun e μ2 w H2 H02 m2 rm2 s2 r2 en2 h2 => ?_
  have r1' := r1.step s2
  refine hr d e v w H2 H02 m2 μ2 _ _ _ rm2 r1' r2 (Sat.bnd h2) fun x μ3 h3 => ?_
  intro z H3 H03 m3 rm3 s3 r3
  obtain ⟨b, rfl, h4⟩ := toB_some (Sat.bnd h3)
  refine ⟨b, rep_bl.mp r3, ?_⟩
  have s23 := s2.trans s3
  have s123 := s1.trans s23
  cases b with
  | true =>
    rw [if_pos rfl] at h4 ⊢
    refine ac.bnd rm3 (en2.step s3) (h4.mono (fun _ _ z => z) fun x μ z => z.later s3) fun y μ4 u H4 H04 m4 rm4 s4 r4 en4 h5 => ?_
    exact hr' e y w u H4 H04 m4 μ4 Q _ _ rm4 (r2.step (s3.trans s4)) r4 h5 fun x μ5 q => PostE.later (Q := Q) q (s123.trans s4)
  | false =>
    rw [if_neg Bool.false_ne_true] at h4 ⊢
    exact h4 _ _ _ _ rm3 s123 (rep_bl.mpr rfl)
theorem ve_chn {a b c : Expr} {ea eb ec : E} {p q : Cop} (ha : VE Γ k N sc a ea) (hb : VE Γ k N sc b eb) (hc : VE Γ k N sc c ec) (hm : plX c = true) : VE Γ k N sc (.Compare a [copOf p, copOf q] [b, c] pos) (.chn p q ea eb ec) := ⟨fun X W g =>
  let ⟨t, h1, _, h3⟩ := chn_ans g ha hb hc hm
  ⟨t, h1, h3⟩⟩
theorem vt_chn {a b c : Expr} {ea eb ec : E} {p q : Cop} (ha : VE Γ k N sc a ea) (hb : VE Γ k N sc b eb) (hc : VE Γ k N sc c ec) (hm : plX c = true) : VT Γ k N sc (.Compare a [copOf p, copOf q] [b, c] pos) (.chn p q ea eb ec) := ⟨fun X W g =>
  let ⟨t, _, h2, h3⟩ := chn_ans g ha hb hc hm
  ⟨_, h2, test_ans h3⟩⟩
/-- the value is a bool: as a test -/
theorem vt_val {x : Expr} {e : E} (h : VE Γ k N sc x e) (hv : valX x = true) : VT Γ k N sc x e := ⟨fun X W g => by
  obtain ⟨t, h1, h2⟩ := h.run X W g
  exact ⟨_, pt_val h1 (isTrue_val hv), test_ans h2⟩⟩

/-! ### and, or, not -/
theorem ve_one {a : Expr} {ea : E} {op : BoolOp} (ha : VE Γ k N sc a ea) : VE Γ k N sc (.BoolOp op [a] pos) ea := ⟨fun X W g => by
  obtain ⟨ta, pa, aa⟩ := ha.run X W g
  exact ⟨_, pe_one pa, aa⟩⟩
theorem ve_and {a b : Expr} {rest : List Expr} {ea eb : E} (ha : VE Γ k N sc a ea) (hb : VE Γ k N sc (.BoolOp .And (b :: rest) pos) eb) : VE Γ k N sc (.BoolOp .And (a :: b :: rest) pos) (.and ea eb) := ⟨fun X W g => by
  obtain ⟨ta, pa, aa⟩ := ha.run X W g
  obtain ⟨tb, pb, ab⟩ := hb.run X W g
  refine ⟨_, pe_and pa pb, fun σ H env μ H0 m Q rm en h => ?_⟩
  simp only [evE] at h
  refine aa.bnd rm en h fun d μ1 v H1 H01 m1 rm1 s1 r1 en1 h1 => ?_
  obtain ⟨c, rfl, h2⟩ := toB_some (Sat.bnd h1)
  refine ⟨c, rep_bl.mp r1, ?_⟩
  cases c with
  | true =>
    rw [if_pos rfl] at h2 ⊢
    exact ab σ H1 env μ1 H01 m1 Q rm1 en1 (h2.mono (fun x μ2 q => PostE.later (Q := Q) q s1) fun _ _ z => z)
  | false =>
    rw [if_neg Bool.false_ne_true] at h2 ⊢
    exact h2 _ _ _ _ rm1 s1 (rep_bl.mpr rfl)⟩
theorem ve_or {a b : Expr} {rest : List Expr} {ea eb : E} (ha : VE Γ k N sc a ea) (hb : VE Γ k N sc (.BoolOp .Or (b :: rest) pos) eb) : VE Γ k N sc (.BoolOp .Or (a :: b :: rest) pos) (.or ea eb) := ⟨fun X W g => by
  obtain ⟨ta, pa, aa⟩ := ha.run X W g
  obtain ⟨tb, pb, ab⟩ := hb.run X W g
  refine ⟨_, pe_or pa pb, fun σ H env μ H0 m Q rm en h => ?_⟩
  simp only [evE] at h
  refine aa.bnd rm en h fun d μ1 v H1 H01 m1 rm1 s1 r1 en1 h1 => ?_
  obtain ⟨c, rfl, h2⟩ := toB_some (Sat.bnd h1)
  refine ⟨c, rep_bl.mp r1, ?_⟩
  cases c with
  | true =>
    rw [if_pos rfl] at h2 ⊢
    exact h2 _ _ _ _ rm1 s1 (rep_bl.mpr rfl)
  | false =>
    rw [if_neg Bool.false_ne_true] at h2 ⊢
    exact ab σ H1 env μ1 H01 m1 Q rm1 en1 (h2.mono (fun x μ2 q => PostE.later (Q := Q) q s1) fun _ _ z => z)⟩
theorem ve_not {a : Expr} {ea : E} (ha : VE Γ k N sc a ea) : VE Γ k N sc (.UnaryOp .Not a pos) (.not ea) := ⟨fun X W g => by
  obtain ⟨ta, pa, aa⟩ := ha.run X W g
  refine ⟨_, pe_not pa, fun σ H env μ H0 m Q rm en h => ?_⟩
  simp only [evE] at h
  refine aa.bnd rm en h fun d μ1 v H1 H01 m1 rm1 s1 r1 en1 h1 => ?_
  obtain ⟨c, rfl, h2⟩ := toB_some (Sat.bnd h1)
  exact ⟨c, rep_bl.mp r1, h2 _ _ _ _ rm1 s1 (rep_bl.mpr rfl)⟩⟩
theorem bnd_assoc {α β γ : Type} (x : M α) (f : α → M β) (g : β → M γ) : bnd (bnd x f) g = bnd x (fun a => bnd (f a) g) := by
  funext μ
  unfold MI.bnd
  cases x μ <;> rfl
theorem bnd_pur {α β : Type} (a : α) (f : α → M β) : bnd (pur a) f = f a := rfl
theorem bnd_ite {α β : Type} {c : Prop} [Decidable c] (x y : M α) (f : α → M β) : bnd (if c then x else y) f = if c then bnd x f else bnd y f := by
  split <;> rfl
theorem toB_bl (b : Bool) : toB (.t (.bl b)) = pur b := rfl
theorem vt_not {a : Expr} {ea : E} (ha : VT Γ k N sc a ea) : VT Γ k N sc (.UnaryOp .Not a pos) (.not ea) := ⟨fun X W g => by
  obtain ⟨ta, pa, aa⟩ := ha.run X W g
  refine ⟨_, pt_not pa, fun σ H env μ H0 m Q rm en h => ?_⟩
  simp only [evE] at h
  rw [bnd_assoc] at h
  simp only [bnd_assoc, bnd_pur, toB_bl] at h
  rw [← bnd_assoc] at h
  refine aa.bnd rm en h fun d μ1 v H1 H01 m1 rm1 s1 r1 en1 h1 => ?_
  cases r1
  exact h1 _ _ _ _ rm1 s1 rfl⟩
/-- a chain of and, or as a test -/
structure VW (Γ : Gam) (k : Nat) (N : List Str) (sc : Sco) (x : Expr) (e : E) : Prop where
  run : ∀ X W, Gd Γ k N sc X W → ∃ t, PW X x t ∧ AnsG eqR X W t (fun env => bnd (evE Γ.F e env) toB)
theorem VW.vt {x : Expr} {e : E} (h : VW Γ k N sc x e) : VT Γ k N sc x e := ⟨fun X W g =>
  let ⟨t, h1, h2⟩ := h.run X W g
  ⟨t, h1.pt, h2⟩⟩
theorem vw_and1 {a : Expr} {ea : E} (ha : VT Γ k N sc a ea) : VW Γ k N sc (.BoolOp .And [a] pos) ea := ⟨fun X W g =>
  let ⟨t, h1, h2⟩ := ha.run X W g
  ⟨t, pw_and1 h1, h2⟩⟩
theorem vw_or1 {a : Expr} {ea : E} (ha : VT Γ k N sc a ea) : VW Γ k N sc (.BoolOp .Or [a] pos) ea := ⟨fun X W g =>
  let ⟨t, h1, h2⟩ := ha.run X W g
  ⟨t, pw_or1 h1, h2⟩⟩
theorem vw_and {a b : Expr} {rest : List Expr} {ea eb : E} (ha : VT Γ k N sc a ea) (hb : VW Γ k N sc (.BoolOp .And (b :: rest) pos) eb) : VW Γ k N sc (.BoolOp .And (a :: b :: rest) pos) (.and ea eb) := ⟨fun X W g => by
  obtain ⟨ta, pa, aa⟩ := ha.run X W g
  obtain ⟨tb, pb, ab⟩ := hb.run X W g
  refine ⟨_, pw_and pa pb, fun σ H env μ H0 m Q rm en h => ?_⟩
  simp only [evE] at h
  rw [bnd_assoc] at h
  simp only [bnd_assoc, bnd_ite, bnd_pur, toB_bl] at h
  rw [← bnd_assoc] at h
  refine aa.bnd rm en h fun d μ1 v H1 H01 m1 rm1 s1 r1 en1 h1 => ?_
  cases r1
  cases d with
  | true =>
    rw [if_pos rfl] at h1 ⊢
    exact ab σ H1 env μ1 H01 m1 Q rm1 en1 (h1.mono (fun x μ2 q b H' H0' m' r s e => q b H' H0' m' r (s1.trans s) e) fun _ _ z => z)
  | false =>
    rw [if_neg Bool.false_ne_true] at h1 ⊢
    exact h1 _ _ _ _ rm1 s1 rfl⟩
theorem vw_or {a b : Expr} {rest : List Expr} {ea eb : E} (ha : VT Γ k N sc a ea) (hb : VW Γ k N sc (.BoolOp .Or (b :: rest) pos) eb) : VW Γ k N sc (.BoolOp .Or (a :: b :: rest) pos) (.or ea eb) := ⟨fun X W g => by
  obtain ⟨ta, pa, aa⟩ := ha.run X W g
  obtain ⟨tb, pb, ab⟩ := hb.run X W g
  refine ⟨_, pw_or pa pb, fun σ H env μ H0 m Q rm en h => ?_⟩
  simp only [evE] at h
  rw [bnd_assoc] at h
  simp only [bnd_assoc, bnd_ite, bnd_pur, toB_bl] at h
  rw [← bnd_assoc] at h
  refine aa.bnd rm en h fun d μ1 v H1 H01 m1 rm1 s1 r1 en1 h1 => ?_
  cases r1
  cases d with
  | true =>
    rw [if_pos rfl] at h1 ⊢
    exact h1 _ _ _ _ rm1 s1 rfl
  | false =>
    rw [if_neg Bool.false_ne_true] at h1 ⊢
    exact ab σ H1 env μ1 H01 m1 Q rm1 en1 (h1.mono (fun x μ2 q b H' H0' m' r s e => q b H' H0' m' r (s1.trans s) e) fun _ _ z => z)⟩
theorem ve_ite {c a b : Expr} {ec ea eb : E} (hc : VT Γ k N sc c ec) (ha : VE Γ k N sc a ea) (hb : VE Γ k N sc b eb) : VE Γ k N sc (.IfExp c a b pos) (.ite ec ea eb) := ⟨fun X W g => by
  obtain ⟨tc, pc, ac⟩ := hc.run X W g
  obtain ⟨ta, pa, aa⟩ := ha.run X W g
  obtain ⟨tb, pb, ab⟩ := hb.run X W g
  refine ⟨_, pe_ifExp pc pa pb, fun σ H env μ H0 m Q rm en h => ?_⟩
  simp only [evE] at h
  rw [← bnd_assoc] at h
  refine ac.bnd rm en h fun d μ1 v H1 H01 m1 rm1 s1 r1 en1 h1 => ?_
  cases r1
  cases d with
  | true =>
    rw [if_pos rfl] at h1 ⊢
    exact aa σ H1 env μ1 H01 m1 Q rm1 en1 (h1.mono (fun x μ2 q => PostE.later (Q := Q) q s1) fun _ _ z => z)
  | false =>
    rw [if_neg Bool.false_ne_true] at h1 ⊢
    exact ab σ H1 env μ1 H01 m1 Q rm1 en1 (h1.mono (fun x μ2 q => PostE.later (Q := Q) q s1) fun _ _ z => z)⟩

/-! ### lists of expressions, displays -/
theorem ves_nil : VEs Γ k N sc [] .nil := ⟨rfl, fun X W g => ⟨_, pa_nil, fun σ H env μ H0 m Q rm en h => by
  simp only [evEs] at h
  exact h [] H H0 m rm Step.refl (by simp only [reps])⟩⟩
theorem ves_cons {x : Expr} {xs : List Expr} {e : E} {es : Es} (hp : plX x = true) (ha : VE Γ k N sc x e) (hr : VEs Γ k N sc xs es) : VEs Γ k N sc (x :: xs) (.cons e es) := ⟨by simp [hp, hr.pl], fun X W g => by
  obtain ⟨ta, pa, aa⟩ := ha.run X W g
  obtain ⟨tr, pr, ar⟩ := hr.run X W g
  refine ⟨_, pa_cons pa pr (starEach_pl hp), fun σ H env μ H0 m Q rm en h => ?_⟩
  simp only [evEs] at h
  refine aa.bnd rm en h fun d μ1 v H1 H01 m1 rm1 s1 r1 en1 h1 => ?_
  refine ar.bnd rm1 en1 h1 fun ds μ2 vs H2 H02 m2 rm2 s2 r2 en2 h2 => ?_
  exact h2 (v :: vs) H2 H02 m2 rm2 (s1.trans s2) (by simp only [reps]; exact ⟨v, vs, rfl, r1.step s2, r2⟩)⟩
theorem ve_tup {xs : List Expr} {es : Es} {j : Nat} (h : VEs Γ k N sc xs es) : VE Γ k N sc (.Tuple xs j pos) (.tup es) := ⟨fun X W g => by
  obtain ⟨ta, pa, aa⟩ := h.run X W g
  refine ⟨_, pe_tup pa, fun σ H env μ H0 m Q rm en h => ?_⟩
  simp only [evE] at h
  refine aa.bnd rm en h fun ds μ1 vs H1 H01 m1 rm1 s1 r1 en1 h1 => ?_
  obtain ⟨z, q⟩ := mkTup_ok (Q := Q) rm1 r1 h1 fun d μ q => PostE.later (Q := Q) q s1
  exact ⟨by rw [← reps_len r1]; exact z, q⟩⟩
theorem ve_lst {xs : List Expr} {es : Es} {fz : Bool} (h : VEs Γ k N sc xs es) : VE Γ k N sc (.List xs pos) (.lst fz es) := ⟨fun X W g => by
  obtain ⟨ta, pa, aa⟩ := h.run X W g
  refine ⟨_, pe_lst pa, fun σ H env μ H0 m Q rm en h => ?_⟩
  simp only [evE] at h
  refine aa.bnd rm en h fun ds μ1 vs H1 H01 m1 rm1 s1 r1 en1 h1 => ?_
  obtain ⟨z, q⟩ := mkL_ok (Q := Q) rm1 r1 h1 fun d μ q => PostE.later (Q := Q) q s1
  exact ⟨by rw [← reps_len r1]; exact z, q⟩⟩
theorem ve_dnew {b : Bool} : VE Γ k N sc (.Dict [] [] pos) (.dnew b) := ⟨fun X W g => by
  cases b with
  | false =>
    refine ⟨_, pe_dnewK, fun σ H env μ H0 m Q rm en h p hp => ?_⟩
    simp only [evE] at h
    refine h (.ref p) _ H0 (m ++ [p]) (rm.newC hp ⟨rm.same.free hp, [], upd_same, rfl⟩) (Step.newC hp) ?_
    simp only [rep]
    exact ⟨p, by rw [← rm.len]; simp, rfl⟩
  | true =>
    refine ⟨_, pe_dnewT, fun σ H env μ H0 m Q rm en h p hp => ?_⟩
    simp only [evE] at h
    refine h (.ref p) _ H0 (m ++ [p]) (rm.newC hp ⟨rm.same.free hp, [], upd_same, rfl⟩) (Step.newC hp) ?_
    simp only [rep]
    exact ⟨p, by rw [← rm.len]; simp, rfl⟩⟩
theorem ve_ix {a b : Expr} {ea eb : E} (ha : VE Γ k N sc a ea) (hb : VE Γ k N sc b eb) (hp : plX b = true) : VE Γ k N sc (.Subscript a b pos) (.ix ea eb) := ⟨fun X W g => by
  obtain ⟨ta, pa, aa⟩ := ha.run X W g
  obtain ⟨tb, pb, ab⟩ := hb.run X W g
  obtain ⟨r, ho, hr⟩ := ixA (X := X) (by have := g.hu; omega)
  refine ⟨_, pe_ix ho pa pb (plainIx hp), fun σ H env μ H0 m Q rm en h => ?_⟩
  simp only [evE] at h
  refine aa.bnd rm en h fun d μ1 v H1 H01 m1 rm1 s1 r1 en1 h1 => ?_
  refine ab.bnd rm1 en1 h1 fun e μ2 w H2 H02 m2 rm2 s2 r2 en2 h2 => ?_
  exact hr d e v w H2 H02 m2 μ2 Q _ _ rm2 (r1.step s2) r2 h2 fun x μ3 q => PostE.later (Q := Q) q (s1.trans s2)⟩
structure VO (Γ : Gam) (k : Nat) (N : List Str) (sc : Sco) (x : Option Expr) (e : Eo) : Prop where
  run : ∀ X W, Gd Γ k N sc X W → ∃ t, PO X x t ∧ AnsG eqR X W t (evEo Γ.F e)
theorem vo_none : VO Γ k N sc none .none := ⟨fun X W g => ⟨_, po_none, fun σ H env μ H0 m Q rm en h => by
  simp only [evEo] at h
  exact h none H H0 m rm Step.refl rfl⟩⟩
theorem vo_some {a : Expr} {ea : E} (ha : VE Γ k N sc a ea) : VO Γ k N sc (some a) (.some ea) := ⟨fun X W g => by
  obtain ⟨ta, pa, aa⟩ := ha.run X W g
  refine ⟨_, po_some pa, fun σ H env μ H0 m Q rm en h => ?_⟩
  simp only [evEo] at h
  refine aa.bnd rm en h fun d μ1 v H1 H01 m1 rm1 s1 r1 en1 h1 => ?_
  split at h1
  · rename_i i e
    exact ⟨i, toI_int e r1, h1 _ _ _ _ rm1 s1 rfl⟩
  · exact h1.elim⟩
theorem ve_slc {a : Expr} {lo hi : Option Expr} {ea : E} {el eh : Eo} {fz : Bool} {p2 : Pos} (ha : VE Γ k N sc a ea) (hl : VO Γ k N sc lo el) (hh : VO Γ k N sc hi eh) : VE Γ k N sc (.Subscript a (.Slice lo hi none p2) pos) (.slc fz ea el eh) := ⟨fun X W g => by
  obtain ⟨ta, pa, aa⟩ := ha.run X W g
  obtain ⟨tl, pl, al⟩ := hl.run X W g
  obtain ⟨th, ph, ah⟩ := hh.run X W g
  obtain ⟨ho, hr⟩ := slcA (X := X) fz
  refine ⟨_, pe_slice ho pa pl ph, fun σ H env μ H0 m Q rm en h => ?_⟩
  simp only [evE] at h
  refine aa.bnd rm en h fun d μ1 v H1 H01 m1 rm1 s1 r1 en1 h1 => ?_
  refine al.bnd rm1 en1 h1 fun l μ2 l' H2 H02 m2 rm2 s2 r2 en2 h2 => ?_
  refine ah.bnd rm2 en2 h2 fun u μ3 u' H3 H03 m3 rm3 s3 r3 en3 h3 => ?_
  cases r2
  cases r3
  exact hr d v l u H3 H03 m3 μ3 Q _ _ rm3 (r1.step (s2.trans s3)) h3 fun x μ3 q => PostE.later (Q := Q) q (s1.trans (s2.trans s3))⟩

/-! ### calls -/
theorem pe_callS0 {X : Cx} {CX : CXT} {k : Nat} {f : Addr} {fd : FuncData} {ps : List Str} {sp : Sp} {E : L2.St → XK} {x : Str} {p pos : Pos} (F : FnOk X.prog X.w X.K X.mg X.base CX k f fd ps sp) (hr : Room k X.A) (hg : Gl X x) (hm : X.mg x = some (.ref f)) (hk : PySem.W.keepIn X.K (.ref f) = true) (hb : Binds X.K fd ps []) (hx : ∀ σ, PassesAt CX X σ (E σ))
    (hdb : (x == ("__debug__" : Str)) = false) : PE X (.Call (.Name x p) [] [] pos) (tCallS sp E tNil) := by
  refine ⟨fun pins s σ H Q I h => ?_⟩
  refine wpAny_Call_Name_kw (ld_glob I hg hm ?_ hdb)
  exact PySem.W.callWith_K0 I.kIn hk (run_fnS (us := []) F hr hb (hx σ) I .nil h)
theorem call_ans {X : Cx} {W : WX} {es : Es} {f : Nat} {t : TA} (at_ : AnsG reps X W t (evEs Γ.F es)) : Ans X W (tCallS (spF X.mg X.K Γ.F f) (WE W) t) (evE Γ.F (.call f es)) := fun σ H env μ H0 m Q rm en h => by
  simp only [evE] at h
  refine at_.bnd rm en h fun ds μ1 vs H1 H01 m1 rm1 s1 r1 en1 h1 => ?_
  exact ⟨ds, μ1, H01, m1, rm1, r1, h1.mono (fun d μ2 q => PostE.later (Q := Q) q s1) fun x μ2 q => q⟩
theorem nil_ans {X : Cx} {W : WX} : AnsG reps X W tNil (evEs Γ.F .nil) := fun σ H env μ H0 m Q rm en h => by
  simp only [evEs] at h
  exact h [] H H0 m rm Step.refl (by simp only [reps])
theorem ve_call0 {x : Str} {f : Nat} {p : Pos} (hf : Γ.fn f = some x) (hg : giB (sc.names.lookup x) = true) (hd : (x == ("__debug__" : Str)) = false) : VE Γ k N sc (.Call (.Name x p) [] [] pos) (.call f .nil) := ⟨fun X W g => by
  obtain ⟨a, fd, ps, c, hc, hm, hk, hb, F⟩ := (g.call f x hf).ok
  exact ⟨_, pe_callS0 F g.room (g.gl hg) hm hk hb (fun σ => g.tk.passAt hc σ) hd, call_ans nil_ans⟩⟩
theorem ve_call {x : Str} {e0 : Expr} {xs : List Expr} {es : Es} {f : Nat} {p : Pos} (hf : Γ.fn f = some x) (hg : giB (sc.names.lookup x) = true) (hd : (x == ("__debug__" : Str)) = false) (ha : VEs Γ k N sc (e0 :: xs) es) : VE Γ k N sc (.Call (.Name x p) (e0 :: xs) [] pos) (.call f es) := ⟨fun X W g => by
  obtain ⟨ta, pa, aa⟩ := ha.run X W g
  obtain ⟨a, fd, ps, c, hc, hm, hk, hb, F⟩ := (g.call f x hf).ok
  have hp := ha.pl
  simp only [List.all_cons, Bool.and_eq_true] at hp
  exact ⟨_, pe_callS F g.room (g.gl hg) hm hk hb (fun σ => g.tk.passAt hc σ) pa hd (starEach_pl hp.1) (starEach_any hp.2), call_ans aa⟩⟩

/-! ### built-in functions -/
def bfnN : Bfn → Str × Value
  | .len => ("len", .builtin "len") | .list => ("list", .type "list") | .min2 => ("min", .builtin "min") | .max2 => ("max", .builtin "max")
  | .min1 => ("min", .builtin "min") | .max1 => ("max", .builtin "max")
  | .sum => ("sum", .builtin "sum") | .all => ("all", .builtin "all") | .sorted => ("sorted", .builtin "sorted") | .int1 => ("int", .type "int") | .tup1 => ("tuple", .type "tuple")
theorem bfn_boot (b : Bfn) : bootBuiltins (bfnN b).1 = some (bfnN b).2 ∧ (bfnN b).1 ≠ "__name__" ∧ ((bfnN b).1 == ("__debug__" : Str)) = false := by
  cases b <;> decide +kernel
theorem seq_of {K : PySem.W.Frag} {H H0 : Hp} {m : List Addr} {μ : Mem} {d : D} {v : V} {l : List D} (rm : RelM K H H0 m μ) (r : rep K H0 m d v) (h : (match lstOf μ d with | some l => some l | none => tupOf d) = some l) : ∃ a vs, v = .ref a ∧ (SqL K H a vs ∨ SqT K H a vs) ∧ reps K H0 m l vs := by
  cases e : lstOf μ d with
  | some l' =>
    rw [e] at h
    cases h
    obtain ⟨a, vs, rfl, h1, h2⟩ := rm.lst r e
    exact ⟨a, vs, rfl, .inl h1, h2⟩
  | none =>
    rw [e] at h
    obtain ⟨a, vs, rfl, h1, h2⟩ := rm.tup r h
    exact ⟨a, vs, rfl, .inr (.of h1), h2⟩
theorem reps_keys {K : PySem.W.Frag} {H : Hp} {m : List Addr} : ∀ {kds : List (Key × D)} {kvs : List (Key × V)}, repK K H m kds kvs → reps K H m (kds.map fun p => kD p.1) (kvs.map fun p => kV p.1)
  | [], _, h => by
    subst h
    simp only [List.map_nil, reps]
  | (k, d) :: kds, _, h => by
    obtain ⟨v, r, rfl, _, h2⟩ := h
    simp only [List.map_cons, reps]
    refine ⟨_, _, rfl, ?_, reps_keys h2⟩
    cases k with
    | inl i => exact rep_int.mpr rfl
    | inr x => exact rep_str.mpr rfl
theorem sortI_ins (x : Int) : ∀ ys, (insI x ys).Perm (x :: ys)
  | [] => .refl _
  | y :: ys => by
    unfold insI
    split
    · exact .refl _
    · exact ((sortI_ins x ys).cons y).trans (.swap x y ys)
theorem sortI_perm : ∀ xs, (sortI xs).Perm xs
  | [] => .refl _
  | x :: xs => (sortI_ins x _).trans ((sortI_perm xs).cons x)
theorem insI_sorted (x : Int) : ∀ {ys}, List.Pairwise (· ≤ ·) ys → List.Pairwise (· ≤ ·) (insI x ys)
  | [], _ => by simp [insI]
  | y :: ys, h => by
    unfold insI
    rw [List.pairwise_cons] at h
    split
    · rename_i hl
      rw [List.pairwise_cons, List.pairwise_cons]
      refine ⟨fun z hz => ?_, h⟩
      rcases List.mem_cons.mp hz with rfl | hz
      · exact hl
      · exact Int.le_trans hl (h.1 z hz)
    · rename_i hl
      rw [List.pairwise_cons]
      refine ⟨fun z hz => ?_, insI_sorted x h.2⟩
      rcases List.mem_cons.mp ((sortI_ins x ys).subset hz) with rfl | hz
      · omega
      · exact h.1 z hz
theorem sortI_sorted : ∀ xs, List.Pairwise (· ≤ ·) (sortI xs)
  | [] => .nil
  | x :: xs => insI_sorted x (sortI_sorted xs)
theorem sorted_eq : ∀ {xs ys : List Int}, xs.Perm ys → List.Pairwise (· ≤ ·) xs → List.Pairwise (· ≤ ·) ys → xs = ys := fun p h1 h2 => p.eq_of_pairwise (fun a b _ _ h h' => Int.le_antisymm h h') h1 h2
theorem lexP_no {p q : Int × Int} : lexP p q = false ↔ ¬ (p.1 < q.1 ∨ (p.1 = q.1 ∧ p.2 < q.2)) := SrtO.lexB_no
theorem lexP_yes {p q : Int × Int} : lexP p q = true ↔ (p.1 < q.1 ∨ (p.1 = q.1 ∧ p.2 < q.2)) := SrtO.lexB_iff
theorem insP_perm (x : Int × Int) : ∀ ys, (insP x ys).Perm (x :: ys)
  | [] => .refl _
  | y :: ys => by
    unfold insP
    split
    · exact ((insP_perm x ys).cons y).trans (.swap x y ys)
    · exact .refl _
theorem sortP_perm : ∀ xs, (sortP xs).Perm xs
  | [] => .refl _
  | x :: xs => (insP_perm x _).trans ((sortP_perm xs).cons x)
theorem insP_sorted (x : Int × Int) : ∀ {ys : List (Int × Int)}, ys.Pairwise (fun a b => lexP b a = false) → (insP x ys).Pairwise (fun a b => lexP b a = false)
  | [], _ => by simp [insP]
  | y :: ys, h => by
    unfold insP
    rw [List.pairwise_cons] at h
    split
    · rename_i hl
      have hl := lexP_yes.mp hl
      rw [List.pairwise_cons]
      refine ⟨fun z hz => ?_, insP_sorted x h.2⟩
      rcases List.mem_cons.mp ((insP_perm x ys).subset hz) with e | hz
      · rw [e]; exact lexP_no.mpr (by omega)
      · exact h.1 z hz
    · rename_i hl
      have hl := lexP_no.mp (Bool.not_eq_true _ ▸ hl)
      rw [List.pairwise_cons, List.pairwise_cons]
      refine ⟨fun z hz => ?_, h⟩
      rcases List.mem_cons.mp hz with e | hz
      · rw [e]; exact lexP_no.mpr (by omega)
      · have := lexP_no.mp (h.1 z hz)
        exact lexP_no.mpr (by omega)
theorem sortP_sorted : ∀ xs, (sortP xs).Pairwise (fun a b => lexP b a = false)
  | [] => .nil
  | x :: xs => insP_sorted x (sortP_sorted xs)
theorem sortedP_eq {xs ys : List (Int × Int)} (p : xs.Perm ys) (h1 : xs.Pairwise (fun a b => lexP b a = false)) (h2 : ys.Pairwise (fun a b => lexP b a = false)) : xs = ys := p.eq_of_pairwise (fun a b _ _ h h' => by
  have := lexP_no.mp h
  have := lexP_no.mp h'
  exact Prod.ext (by omega) (by omega)) h1 h2
def kOf (H : Hp) : V → Int × Int
  | .ref t => match H t with
    | some (.tup [.int i, .int j]) => (i, j)
    | _ => (0, 0)
  | _ => (0, 0)
theorem prs_ok {K : PySem.W.Frag} {H H0 : Hp} {m : List Addr} (s : Same H0 H) : ∀ {l : List D} {vs : List V} {ps : List (Int × Int)}, reps K H0 m l vs → toPrs l = some ps →
    vs.map (kOf H) = ps ∧ ∀ v ∈ vs, ∃ t, v = .ref t ∧ H0 t = some (.tup [.int (kOf H v).1, .int (kOf H v).2])
  | [], vs, ps, r, h => by
    simp only [reps] at r
    simp only [toPrs] at h
    cases h
    subst r
    exact ⟨rfl, fun v hv => by cases hv⟩
  | d :: l, vs, ps, r, h => by
    simp only [reps] at r
    obtain ⟨v, q, rfl, r1, r2⟩ := r
    simp only [toPrs] at h
    split at h
    · rename_i p ps' e1 e2
      cases h
      obtain ⟨i1, i2⟩ := prs_ok s r2 e2
      unfold toPr at e1
      split at e1
      · rename_i i j
        cases e1
        simp only [rep, repT, repTs] at r1
        obtain ⟨a, vs, rfl, h1, v1, w1, rfl, rfl, v2, w2, rfl, rfl, rfl⟩ := r1
        have ek : kOf H (.ref a) = (i, j) := by simp only [kOf, s _ _ h1]
        refine ⟨by rw [List.map_cons, i1, ek], fun v hv => ?_⟩
        rcases List.mem_cons.mp hv with e | hv
        · rw [e, ek]; exact ⟨a, rfl, h1⟩
        · exact i2 v hv
      · cases e1
    · cases h
theorem prs_dps {K : PySem.W.Frag} {H H0 : Hp} {m : List Addr} (s : Same H0 H) : ∀ {l : List D} {vs : List V} {ps : List (Int × Int)}, reps K H0 m l vs → toPrs l = some ps → DpAll K H vs (ps.map fun p => PyData.tuple [.int p.1, .int p.2])
  | [], vs, ps, r, h => by
    simp only [reps] at r
    subst r
    cases h
    exact .nil
  | d :: l, vs, ps, r, h => by
    simp only [reps] at r
    obtain ⟨v, q, rfl, r1, r2⟩ := r
    unfold toPrs at h
    split at h
    · rename_i p ps' e1 e2
      cases h
      unfold toPr at e1
      split at e1
      · rename_i i j
        cases e1
        exact .cons (dp_of rfl (repT.mono s (show repT K H0 (.tup [.int i, .int j]) v from by simpa only [rep] using r1))) (prs_dps s r2 e2)
      · cases e1
    · cases h
theorem plain_prs : ∀ ps : List (Int × Int), PyData.plainAll (ps.map fun p => PyData.tuple [.int p.1, .int p.2]) = true
  | [] => rfl
  | p :: ps => by
    have := plain_prs ps
    simp only [List.map_cons, PyData.plainAll, this, Bool.and_true]
    rfl
theorem place_prs (ps : List (Int × Int)) (i j : Int) : SeqAt.dataPlace (ps.map fun p => PyData.tuple [.int p.1, .int p.2]) (.tuple [.int i, .int j]) = ps.findIdx? (fun p => decide (p = (i, j))) := by
  unfold SeqAt.dataPlace
  rw [List.findIdx?_map]
  congr 1
  funext p
  obtain ⟨a, b⟩ := p
  have e : PyData.eqv (.tuple [.int a, .int b]) (.tuple [.int i, .int j]) = ((a == i) && ((b == j) && true)) := rfl
  show PyData.eqv (.tuple [.int a, .int b]) (.tuple [.int i, .int j]) = _
  rw [e, Bool.eq_iff_iff]
  simp
theorem prs_rep {K : PySem.W.Frag} {H0 : Hp} {m : List Addr} {k : V → Int × Int} : ∀ {ys : List V}, (∀ v ∈ ys, ∃ t, v = .ref t ∧ H0 t = some (.tup [.int (k v).1, .int (k v).2])) → reps K H0 m ((ys.map k).map fun p => D.t (.tup [.int p.1, .int p.2])) ys
  | [], _ => by simp only [List.map_nil, reps]
  | y :: ys, h => by
    simp only [List.map_cons, reps]
    refine ⟨y, ys, rfl, ?_, prs_rep fun v hv => h v (List.mem_cons_of_mem _ hv)⟩
    obtain ⟨t, e, h1⟩ := h y (List.mem_cons_self ..)
    simp only [rep, repT, repTs]
    exact ⟨t, _, e, h1, _, _, rfl, rfl, _, _, rfl, rfl, rfl⟩
theorem fold_min : ∀ (ns : List Int) (n : Int), ns.foldl (fun a y => if y < a then y else a) n ∈ n :: ns ∧ ∀ y ∈ n :: ns, ns.foldl (fun a y => if y < a then y else a) n ≤ y
  | [], n => ⟨by simp, fun y hy => by simp at hy; simp [hy]⟩
  | x :: ns, n => by
    have hz : ∃ z, (if x < n then x else n) = z ∧ (z ≤ n ∧ z ≤ x) ∧ (z = x ∨ z = n) := ⟨_, rfl, by split <;> omega, by split <;> simp⟩
    obtain ⟨z, ez, hz, hzz⟩ := hz
    obtain ⟨h1, h2⟩ := fold_min ns z
    have hx := h2 _ (List.mem_cons_self ..)
    rw [List.foldl_cons, ez]
    refine ⟨?_, fun y hy => ?_⟩
    · rcases List.mem_cons.mp h1 with e | e
      · rw [e]
        rcases hzz with rfl | rfl <;> simp
      · simp [e]
    · rcases List.mem_cons.mp hy with rfl | hy
      · omega
      · rcases List.mem_cons.mp hy with rfl | hy
        · omega
        · exact h2 _ (List.mem_cons_of_mem _ hy)
theorem fold_max : ∀ (ns : List Int) (n : Int), ns.foldl (fun a y => if a < y then y else a) n ∈ n :: ns ∧ ∀ y ∈ n :: ns, y ≤ ns.foldl (fun a y => if a < y then y else a) n
  | [], n => ⟨by simp, fun y hy => by simp at hy; simp [hy]⟩
  | x :: ns, n => by
    have hz : ∃ z, (if n < x then x else n) = z ∧ (n ≤ z ∧ x ≤ z) ∧ (z = x ∨ z = n) := ⟨_, rfl, by split <;> omega, by split <;> simp⟩
    obtain ⟨z, ez, hz, hzz⟩ := hz
    obtain ⟨h1, h2⟩ := fold_max ns z
    have hx := h2 _ (List.mem_cons_self ..)
    rw [List.foldl_cons, ez]
    refine ⟨?_, fun y hy => ?_⟩
    · rcases List.mem_cons.mp h1 with e | e
      · rw [e]
        rcases hzz with rfl | rfl <;> simp
      · simp [e]
    · rcases List.mem_cons.mp hy with rfl | hy
      · omega
      · rcases List.mem_cons.mp hy with rfl | hy
        · omega
        · exact h2 _ (List.mem_cons_of_mem _ hy)
theorem dedI_mem {x : Int} : ∀ {xs : List Int}, x ∈ dedI xs ↔ x ∈ xs
  | [] => by simp [dedI]
  | y :: ys => by
    simp only [dedI]
    split
    · rename_i h
      have h : y ∈ ys := by simpa using h
      rw [dedI_mem, List.mem_cons]
      exact ⟨.inr, fun e => e.elim (fun e => e ▸ h) id⟩
    · rw [List.mem_cons, List.mem_cons, dedI_mem]
theorem dedI_nodup : ∀ xs : List Int, (dedI xs).Nodup
  | [] => by simp [dedI]
  | y :: ys => by
    simp only [dedI]
    split
    · exact dedI_nodup ys
    · rename_i h
      exact List.nodup_cons.mpr ⟨fun hm => h (by simpa using dedI_mem.mp hm), dedI_nodup ys⟩
theorem dedI_len : ∀ xs : List Int, (dedI xs).length ≤ xs.length
  | [] => by simp [dedI]
  | y :: ys => by
    have := dedI_len ys
    simp only [dedI]
    split
    · simp only [List.length_cons]; omega
    · simp only [List.length_cons]; omega
theorem sset_eq {ns ns' : List Int} (h : ns'.Pairwise (· < ·)) (hm : ∀ k, k ∈ ns' ↔ k ∈ ns) : ns' = sortI (dedI ns) := by
  have hn : ns'.Nodup := h.imp fun h => Int.ne_of_lt h
  have hp : ns'.Perm (dedI ns) := (List.perm_ext_iff_of_nodup hn (dedI_nodup ns)).mpr fun k => by rw [hm, dedI_mem]
  exact sorted_eq (hp.trans (sortI_perm _).symm) (h.imp fun h => Int.le_of_lt h) (sortI_sorted _)
theorem bfnA {X : Cx} {W : WX} (g : Gd Γ k N sc X W) (fz : Bool) (b : Bfn) : ∃ r, CallR X (bfnN b).2 r ∧ ∀ (ds : List D) (vs : List V) (H H0 : Hp) (m : List Addr) (μ : Mem) (Q : VK) (P : D → Mem → Prop) (E : Exn → Mem → Prop),
    RelM X.K H H0 m μ → reps X.K H0 m ds vs → Sat (bfnD fz b ds μ) P E → (∀ d μ, P d μ → PostE X.K Q H H0 m d μ) → r vs H Q := by
  cases b with
  | len =>
    refine ⟨_, CallR.or call_len_str (CallR.or call_len_seq call_lenD), fun ds vs H H0 m μ Q P E rm r h hP => ?_⟩
    unfold bfnD at h
    split at h
    · rename_i x _
      simp only [reps] at r
      obtain ⟨v, _, rfl, r, rfl⟩ := r
      split at h
      · rename_i hz
        exact .inl ⟨x, by rw [rep_str.mp r], hz, (hP _ _ h).scal rm (rep_int.mpr rfl)⟩
      · exact h.elim
    · rename_i d _ _
      simp only [reps] at r
      obtain ⟨v, _, rfl, r, rfl⟩ := r
      split at h
      · rename_i l e
        obtain ⟨a, vs, rfl, h1, r1⟩ := seq_of rm r e
        exact .inr (.inl ⟨a, vs, rfl, h1, (hP _ _ h).scal rm (rep_int.mpr (by rw [reps_len r1]))⟩)
      · split at h
        · rename_i l e
          obtain ⟨a, kvs, rfl, h1, r1⟩ := rm.dct r e
          exact .inr (.inr ⟨a, kvs, rfl, h1, (hP _ _ h).scal rm (rep_int.mpr (by rw [repK_len r1]))⟩)
        · exact h.elim
    all_goals first | exact h.elim | (rename_i z; cases z)
  | list =>
    refine ⟨_, CallR.or call_list_of (call_list_dK g.calm), fun ds vs H H0 m μ Q P E rm r h hP => ?_⟩
    unfold bfnD at h
    split at h
    any_goals (rename_i z; cases z; done)
    all_goals first | exact h.elim | skip
    rename_i d _
    simp only [reps] at r
    obtain ⟨v, _, rfl, r, rfl⟩ := r
    split at h
    · rename_i l e
      obtain ⟨a, vs, rfl, h1, r1⟩ := seq_of rm r e
      exact .inl ⟨a, vs, rfl, h1, (mkL_ok (Q := Q) rm r1 h hP).2⟩
    · split at h
      · rename_i kds e
        obtain ⟨a, kvs, rfl, h1, r1⟩ := rm.dct r e
        exact .inr ⟨a, kvs, rfl, h1, (mkL_ok (Q := Q) rm (reps_keys r1) h hP).2⟩
      · exact h.elim
  | min2 =>
    refine ⟨_, call_min2 g.calm, fun ds vs H H0 m μ Q P E rm r h hP => ?_⟩
    unfold bfnD at h
    split at h
    any_goals (rename_i z; cases z; done)
    all_goals first | exact h.elim | skip
    rename_i x y _
    simp only [reps] at r
    obtain ⟨v, _, rfl, r1, w, _, rfl, r2, rfl⟩ := r
    split at h
    · rename_i i j e1 e2
      exact ⟨i, j, by rw [toI_int e1 r1, toI_int e2 r2], (hP _ _ h).scal rm (rep_int.mpr rfl)⟩
    · exact h.elim
  | max2 =>
    refine ⟨_, call_max2 g.calm, fun ds vs H H0 m μ Q P E rm r h hP => ?_⟩
    unfold bfnD at h
    split at h
    any_goals (rename_i z; cases z; done)
    all_goals first | exact h.elim | skip
    rename_i x y _
    simp only [reps] at r
    obtain ⟨v, _, rfl, r1, w, _, rfl, r2, rfl⟩ := r
    split at h
    · rename_i i j e1 e2
      exact ⟨i, j, by rw [toI_int e1 r1, toI_int e2 r2], (hP _ _ h).scal rm (rep_int.mpr rfl)⟩
    · exact h.elim
  | sum =>
    refine ⟨_, cr_sum g.calm, fun ds vs H H0 m μ Q P E rm r h hP => ?_⟩
    unfold bfnD at h
    split at h
    any_goals (rename_i z; cases z; done)
    all_goals first | exact h.elim | skip
    rename_i d _
    simp only [reps] at r
    obtain ⟨v, _, rfl, r, rfl⟩ := r
    split at h
    · rename_i ns e
      obtain ⟨l, e1, e2⟩ := Option.bind_eq_some_iff.mp e
      obtain ⟨a, vs, rfl, h1, r1⟩ := rm.lst r e1
      rw [reps_ints r1 e2] at h1
      exact ⟨a, ns, rfl, h1, (hP _ _ h).scal rm (rep_int.mpr rfl)⟩
    · exact h.elim
  | all =>
    refine ⟨_, cr_all g.calm, fun ds vs H H0 m μ Q P E rm r h hP => ?_⟩
    unfold bfnD at h
    split at h
    any_goals (rename_i z; cases z; done)
    all_goals first | exact h.elim | skip
    rename_i d _
    simp only [reps] at r
    obtain ⟨v, _, rfl, r, rfl⟩ := r
    split at h
    · rename_i ns e
      obtain ⟨l, e1, e2⟩ := Option.bind_eq_some_iff.mp e
      obtain ⟨a, vs, rfl, h1, r1⟩ := rm.lst r e1
      rw [reps_bls r1 e2] at h1
      exact ⟨a, ns, rfl, h1, (hP _ _ h).scal rm (rep_bl.mpr rfl)⟩
    · exact h.elim
  | sorted =>
    refine ⟨_, CallR.or cr_sortedI cr_sortedPO, fun ds vs H H0 m μ Q P E rm r h hP => ?_⟩
    unfold bfnD at h
    split at h
    any_goals (rename_i z; cases z; done)
    all_goals first | exact h.elim | skip
    rename_i d _
    simp only [reps] at r
    obtain ⟨v, _, rfl, r, rfl⟩ := r
    split at h
    · rename_i ns e
      obtain ⟨l, e1, e2⟩ := Option.bind_eq_some_iff.mp e
      obtain ⟨a, vs, rfl, h1, r1⟩ := rm.lst r e1
      rw [reps_ints r1 e2] at h1
      refine .inl ⟨a, ns, rfl, h1, fun ns' p hp hs hn => ?_⟩
      have e3 : ns' = sortI ns := sorted_eq (hp.trans (sortI_perm ns).symm) hs (sortI_sorted ns)
      rw [e3]
      exact (mkL_ok (Q := Q) rm (reps_of_ints _) h hP).2 p hn
    · split at h
      · rename_i ps e
        obtain ⟨l, e1, e2⟩ := Option.bind_eq_some_iff.mp e
        obtain ⟨a, vs, rfl, h1, r1⟩ := rm.lst r e1
        obtain ⟨i1, i2⟩ := prs_ok rm.same r1 e2
        refine .inr ⟨a, vs, kOf H, rfl, h1, fun x hx => ?_, fun ys p hs hb hn => ?_⟩
        · obtain ⟨t, e, ht⟩ := i2 x hx
          exact ⟨t, e, rm.same _ _ ht⟩
        · have e3 : ys.map (kOf H) = sortP ps := by
            refine sortedP_eq ?_ ?_ (sortP_sorted ps)
            · have := hb.perm.map (kOf H)
              rw [i1] at this
              exact this.trans (sortP_perm ps).symm
            · exact List.pairwise_map.mpr hs
          have r3 := prs_rep (K := X.K) (H0 := H0) (m := m) (k := kOf H) (ys := ys) fun v hv => i2 v (hb.perm.subset hv)
          rw [e3] at r3
          exact (mkL_ok (Q := Q) rm r3 h hP).2 p hn
      · exact h.elim
  | int1 =>
    refine ⟨_, call_int1, fun ds vs H H0 m μ Q P E rm r h hP => ?_⟩
    unfold bfnD at h
    split at h
    any_goals (rename_i z; cases z; done)
    all_goals first | exact h.elim | skip
    · rename_i i _
      simp only [reps] at r
      obtain ⟨v, _, rfl, r, rfl⟩ := r
      exact .inl ⟨i, by rw [rep_int.mp r], (hP _ _ h).scal rm (rep_int.mpr rfl)⟩
    · rename_i i _
      simp only [reps] at r
      obtain ⟨v, _, rfl, r, rfl⟩ := r
      exact .inr ⟨i, by rw [rep_bl.mp r], (hP _ _ h).scal rm (rep_int.mpr rfl)⟩
  | tup1 =>
    refine ⟨_, call_tuple_of, fun ds vs H H0 m μ Q P E rm r h hP => ?_⟩
    unfold bfnD at h
    split at h
    any_goals (rename_i z; cases z; done)
    all_goals first | exact h.elim | skip
    rename_i d _
    simp only [reps] at r
    obtain ⟨v, _, rfl, r, rfl⟩ := r
    split at h
    · rename_i l e
      obtain ⟨a, vs, rfl, h1, r1⟩ := rm.lst r e
      exact ⟨a, vs, rfl, .inl ⟨h1, (mkTup_ok (Q := Q) rm r1 h hP).2⟩⟩
    · exact h.elim
  | min1 =>
    refine ⟨_, cr_min g.calm, fun ds vs H H0 m μ Q P E rm r h hP => ?_⟩
    unfold bfnD at h
    split at h
    any_goals (rename_i z; cases z; done)
    all_goals first | exact h.elim | skip
    rename_i d _
    simp only [reps] at r
    obtain ⟨v, _, rfl, r, rfl⟩ := r
    split at h
    · rename_i n ns e
      obtain ⟨l, e1, e2⟩ := Option.bind_eq_some_iff.mp e
      obtain ⟨a, vs, rfl, h1, r1⟩ := rm.lst r e1
      rw [reps_ints r1 e2] at h1
      refine ⟨a, n :: ns, rfl, h1, by simp, fun m' hm hle => ?_⟩
      obtain ⟨f1, f2⟩ := fold_min ns n
      rw [Int.le_antisymm (hle _ f1) (f2 _ hm)]
      exact (hP _ _ h).scal rm (rep_int.mpr rfl)
    · exact h.elim
  | max1 =>
    refine ⟨_, cr_max g.calm, fun ds vs H H0 m μ Q P E rm r h hP => ?_⟩
    unfold bfnD at h
    split at h
    any_goals (rename_i z; cases z; done)
    all_goals first | exact h.elim | skip
    rename_i d _
    simp only [reps] at r
    obtain ⟨v, _, rfl, r, rfl⟩ := r
    split at h
    · rename_i n ns e
      obtain ⟨l, e1, e2⟩ := Option.bind_eq_some_iff.mp e
      obtain ⟨a, vs, rfl, h1, r1⟩ := rm.lst r e1
      rw [reps_ints r1 e2] at h1
      refine ⟨a, n :: ns, rfl, h1, by simp, fun m' hm hle => ?_⟩
      obtain ⟨f1, f2⟩ := fold_max ns n
      rw [Int.le_antisymm (f2 _ hm) (hle _ f1)]
      exact (hP _ _ h).scal rm (rep_int.mpr rfl)
    · exact h.elim
theorem ve_bfn {x : Str} {e0 : Expr} {xs : List Expr} {es : Es} {b : Bfn} {fz : Bool} {p : Pos} (hx : x = (bfnN b).1) (hb : x ∈ Γ.blts) (hg : giB (sc.names.lookup x) = true) (ha : VEs Γ k N sc (e0 :: xs) es) : VE Γ k N sc (.Call (.Name x p) (e0 :: xs) [] pos) (.bfn fz b es) := ⟨fun X W g => by
  obtain ⟨ta, pa, aa⟩ := ha.run X W g
  have hp := ha.pl
  simp only [List.all_cons, Bool.and_eq_true] at hp
  obtain ⟨r, ho, hr⟩ := bfnA g fz b
  have fin : Ans X W (tCB r ta) (evE Γ.F (.bfn fz b es)) := fun σ H env μ H0 m Q rm en h => by
    simp only [evE] at h
    refine aa.bnd rm en h fun ds μ1 vs H1 H01 m1 rm1 s1 r1 en1 h1 => ?_
    exact hr ds vs H1 H01 m1 μ1 Q _ _ rm1 r1 h1 fun x μ3 q => PostE.later (Q := Q) q s1
  obtain ⟨h1, h2, h3⟩ := bfn_boot b
  subst hx
  have hm := g.blt _ hb
  cases hv : (bfnN b).2 with
  | builtin id => exact ⟨_, pe_callB (by rw [← hv]; exact ho) (g.gl hg) hm (by rw [h1, hv]) pa h2 h3 (starEach_pl hp.1) (starEach_any hp.2), fin⟩
  | type T => exact ⟨_, pe_callTy (by rw [← hv]; exact ho) (g.gl hg) hm (by rw [h1, hv]) pa h2 h3 (starEach_pl hp.1) (starEach_any hp.2), fin⟩
  | _ => exfalso; cases b <;> exact nomatch hv⟩

/-- sorted(x, reverse=True) -/
theorem ve_srev {x : Str} {a : Expr} {ea : E} {fz : Bool} {p tp kp : Pos} {j : Nat} (hx : x = ("sorted" : Str)) (hb : ("sorted" : Str) ∈ Γ.blts) (hg : giB (sc.names.lookup ("sorted" : Str)) = true) (hp : plX a = true) (ha : VE Γ k N sc a ea) :
    VE Γ k N sc (.Call (.Name x p) [a] [⟨some (Str.ofString "reverse"), .Constant (.bool true) j tp, kp⟩] pos) (.srev fz ea) := ⟨fun X W g => by
  obtain ⟨ta, pa, aa⟩ := ha.run X W g
  subst hx
  have hm := g.blt _ hb
  have ho : CallRK X (.builtin "sorted") [Str.ofString "reverse"] (fun vs zs H Q => rSortedKw X.K true [.bl true] vs zs H Q ∨ rSortedPR X.K vs zs H Q) := fun pins s σ H vs zs us ws Q I r rz h => by
    rcases h with h | h
    · exact cr_sortedRev pins s σ H vs zs us ws Q I r rz h
    · exact cr_sortedPR pins s σ H vs zs us ws Q I r rz h
  refine ⟨_, pe_callBK ho (g.gl hg) hm PyProof.Rows.Boot.«sorted» (pa_cons pa pa_nil (starEach_pl hp)) (pk_cons (te := fun σ H Q => Q (.bl true) H) pe_bl pk_nil) (by decide) (by decide) ?_ ?_, fun σ H env μ H0 m Q rm en h => ?_⟩
  · have := starEach_pl (es := []) (env := X.env) hp
    unfold backTo
    rw [this]
    rfl
  · exact starEach_any (by simp [hp])
  · simp only [evE] at h
    show ta σ H _
    refine aa.bnd rm en h fun d μ1 v H1 H01 m1 rm1 s1 r1 en1 h1 => ?_
    have hP : ∀ d μ, PostE X.K Q H H0 m d μ → PostE X.K Q H1 H01 m1 d μ := fun x μ3 q => PostE.later (Q := Q) q s1
    unfold srevD at h1
    split at h1
    · rename_i ns e
      obtain ⟨l, e1, e2⟩ := Option.bind_eq_some_iff.mp e
      obtain ⟨b, vs, rfl, h2, r2⟩ := rm1.lst r1 e1
      rw [reps_ints r2 e2] at h2
      refine .inl ⟨b, ns, rfl, rfl, h2, fun ns' p hp' hs hn => ?_⟩
      have e3 : ns' = (sortI ns).reverse := by
        have hs' : ns'.Pairwise (· ≥ ·) := hs
        have h3 : ns'.reverse = sortI ns := sorted_eq ((List.reverse_perm _).trans (hp'.trans (sortI_perm ns).symm)) (List.pairwise_reverse.mpr hs') (sortI_sorted ns)
        rw [← h3, List.reverse_reverse]
      rw [e3]
      exact (mkL_ok (Q := Q) rm1 (reps_of_ints _) h1 hP).2 p hn
    · split at h1
      · rename_i ps e
        obtain ⟨l, e1, e2⟩ := Option.bind_eq_some_iff.mp e
        obtain ⟨b, vs, rfl, h2, r2⟩ := rm1.lst r1 e1
        obtain ⟨i1, i2⟩ := prs_ok rm1.same r2 e2
        refine .inr ⟨b, vs, kOf H1, rfl, rfl, h2, fun x hx => ?_, fun ys p hs hb hn => ?_⟩
        · obtain ⟨t, e, ht⟩ := i2 x hx
          exact ⟨t, e, rm1.same _ _ ht⟩
        · have e3 : ys.map (kOf H1) = sortP ps := by
            refine sortedP_eq ?_ ?_ (sortP_sorted ps)
            · have := hb.map (kOf H1)
              rw [i1] at this
              exact this.trans (sortP_perm ps).symm
            · exact List.pairwise_map.mpr hs
          have r3 := prs_rep (K := X.K) (H0 := H01) (m := m1) (k := kOf H1) (ys := ys.reverse) fun v hv => i2 v (hb.subset (List.mem_reverse.mp hv))
          rw [List.map_reverse, e3] at r3
          exact (mkL_ok (Q := Q) rm1 r3 h1 hP).2 p hn
      · exact h1.elim⟩
/-- sorted(set(x)) -/
theorem ve_sset {x y : Str} {a : Expr} {ea : E} {fz : Bool} {p q pos2 : Pos} (hx : x = ("sorted" : Str)) (hy : y = ("set" : Str)) (hb : ("sorted" : Str) ∈ Γ.blts) (hb2 : ("set" : Str) ∈ Γ.blts) (hg : giB (sc.names.lookup ("sorted" : Str)) = true) (hg2 : giB (sc.names.lookup ("set" : Str)) = true) (hp : plX a = true) (ha : VE Γ k N sc a ea) :
    VE Γ k N sc (.Call (.Name x p) [.Call (.Name y q) [a] [] pos2] [] pos) (.sset fz ea) := ⟨fun X W g => by
  obtain ⟨ta, pa, aa⟩ := ha.run X W g
  subst hx
  subst hy
  have pin := pe_callTy (p := q) (pos := pos2) (cr_setOfL (X := X) g.calm) (g.gl hg2) (g.blt _ hb2) (by decide +kernel) (pa_cons pa pa_nil (starEach_pl hp)) (by decide) (by decide +kernel) (starEach_pl hp) (by rfl)
  refine ⟨_, pe_callB (cr_sortedSet g.calm) (g.gl hg) (g.blt _ hb) (by decide +kernel) (pa_cons pin pa_nil (starEach_pl rfl)) (by decide) (by decide +kernel) (starEach_pl rfl) (by rfl), fun σ H env μ H0 m Q rm en h => ?_⟩
  simp only [evE] at h
  show ta σ H _
  refine aa.bnd rm en h fun d μ1 v H1 H01 m1 rm1 s1 r1 en1 h1 => ?_
  unfold ssetD at h1
  split at h1
  · rename_i ns e
    split at h1
    · rename_i hz
      obtain ⟨l, e1, e2⟩ := Option.bind_eq_some_iff.mp e
      obtain ⟨b, vs, rfl, h2, r2⟩ := rm1.lst r1 e1
      rw [reps_ints r2 e2] at h2
      refine ⟨b, ns, rfl, h2, by unfold scanBound; omega, fun p c hc hn => ?_⟩
      refine ⟨p, _, c, rfl, upd_same, by omega, fun ns' p2 hs hm hl hn2 => ?_⟩
      have e3 : ns' = sortI (dedI ns) := sset_eq hs fun k => by rw [hm k, decide_eq_true_eq]
      rw [e3]
      exact (mkL_ok (Q := Q) (rm1.newU hn) (reps_of_ints _) h1 fun x μ3 q => PostE.later (Q := Q) q (s1.trans (Step.newU hn))).2 p2 hn2
    · exact h1.elim
  · exact h1.elim⟩
/-- max(x, default=k), min(x, default=k) -/
theorem ve_mxd {x : Str} {a : Expr} {ea : E} {mx : Bool} {kk : Int} {p tp kp : Pos} {j : Nat} (hx : x = (if mx = true then ("max" : Str) else "min")) (hb : x ∈ Γ.blts) (hg : giB (sc.names.lookup x) = true) (hp : plX a = true) (ha : VE Γ k N sc a ea) :
    VE Γ k N sc (.Call (.Name x p) [a] [⟨some (Str.ofString "default"), .Constant (.int kk) j tp, kp⟩] pos) (.mxd mx ea kk) := ⟨fun X W g => by
  obtain ⟨ta, pa, aa⟩ := ha.run X W g
  subst hx
  have hm := g.blt _ hb
  refine ⟨_, pe_callBK (cr_mxDf (X := X) g.calm g.hu mx) (g.gl hg) hm (by cases mx <;> decide +kernel) (pa_cons pa pa_nil (starEach_pl hp)) (pk_cons (te := fun σ H Q => Q (.int kk) H) pe_int pk_nil) (by cases mx <;> decide) (by cases mx <;> decide +kernel) ?_ ?_, fun σ H env μ H0 m Q rm en h => ?_⟩
  · have := starEach_pl (es := []) (env := X.env) hp
    unfold backTo
    rw [this]
    rfl
  · exact starEach_any (by simp [hp])
  · simp only [evE] at h
    show ta σ H _
    refine aa.bnd rm en h fun d μ1 v H1 H01 m1 rm1 s1 r1 en1 h1 => ?_
    unfold mxD at h1
    split at h1
    · rename_i ns e
      obtain ⟨l, e1, e2⟩ := Option.bind_eq_some_iff.mp e
      obtain ⟨b, vs, rfl, h2, r2⟩ := rm1.lst r1 e1
      rw [reps_ints r2 e2] at h2
      exact ⟨b, ns, kk, rfl, rfl, h2, (PostE.later (Q := Q) h1 s1).scal rm1 (rep_int.mpr rfl)⟩
    · exact h1.elim⟩
/-! ### isinstance -/
def tyN : Ty → String
  | .non => "NoneType" | .bl => "bool" | .int => "int" | .str => "str" | .lst => "list" | .tup => "tuple" | .dct => "dict"
def isK : Ty → Bool
  | .non => false
  | _ => true
theorem kit_tab (n k : Ty) (h : isK k = true) : kitB (tyN n) (tyN k) = some (isB n k) := by
  cases n <;> cases k <;> first | (cases h; done) | decide +kernel
theorem is_boot (k : Ty) (h : isK k = true) : bootBuiltins (Str.ofString (tyN k)) = some (.type (tyN k)) ∧ (Str.ofString (tyN k)) ≠ "__name__" ∧ ((Str.ofString (tyN k)) == ("__debug__" : Str)) = false := by
  cases k <;> first | (cases h; done) | decide +kernel
theorem tyOf_ok {K : PySem.W.Frag} {H H0 : Hp} {m : List Addr} {μ : Mem} {d : D} {v : V} {n : Ty} (rm : RelM K H H0 m μ) (r : rep K H0 m d v) (h : tyOf μ d = some n) : TyX K H v (.type (tyN n)) := by
  unfold tyOf at h
  split at h
  · cases h; rw [rep_non.mp r]; exact .base .non
  · cases h; rw [rep_bl.mp r]; exact .base (.bl _)
  · cases h; rw [rep_int.mp r]; exact .base (.int _)
  · cases h; rw [rep_str.mp r]; exact .base (.str _)
  · cases h; simp only [rep, repT] at r; obtain ⟨a, vs, rfl, h1, _⟩ := r; exact .base (.lst (rm.same _ _ h1))
  · cases h; simp only [rep, repT] at r; obtain ⟨a, vs, rfl, h1, _⟩ := r; exact .base (.tup (rm.same _ _ h1))
  · cases h; simp only [rep, repT] at r; obtain ⟨a, vs, rfl, h1, _⟩ := r; exact .base (.dK (rm.same _ _ h1))
  · cases h; simp only [rep, repT] at r; obtain ⟨a, vs, rfl, h1, _⟩ := r; exact .base (.dT (rm.same _ _ h1))
  · cases h
  · cases h; simp only [rep] at r; obtain ⟨a, vs, rfl, h1, _⟩ := r; exact .base (.tup (rm.same _ _ h1))
  · simp only [rep] at r
    obtain ⟨a, h1, rfl⟩ := r
    split at h
    · rename_i h2; cases h; obtain ⟨_, vs, h3, _⟩ := rm.ref h1 h2; exact .base (.lst h3)
    · rename_i h2; cases h; obtain ⟨_, vs, h3, _⟩ := rm.ref h1 h2; exact .base (.dK h3)
    · rename_i h2; cases h; obtain ⟨_, vs, h3, _⟩ := rm.ref h1 h2; exact .base (.dT h3)
    · cases h
theorem ve_isi {a : Expr} {ea : E} {kn : Ty} {p p2 : Pos} (hp : plX a = true) (hk : isK kn = true) (hb1 : ("isinstance" : Str) ∈ Γ.blts) (hb2 : Str.ofString (tyN kn) ∈ Γ.blts) (hg1 : giB (sc.names.lookup ("isinstance" : Str)) = true) (hg2 : giB (sc.names.lookup (Str.ofString (tyN kn))) = true)
    (ha : VE Γ k N sc a ea) : VE Γ k N sc (.Call (.Name "isinstance" p) [a, .Name (Str.ofString (tyN kn)) p2] [] pos) (.isi ea [kn]) := ⟨fun X W g => by
  obtain ⟨ta, pa, aa⟩ := ha.run X W g
  obtain ⟨b1, b2, b3⟩ := is_boot kn hk
  have pk : PE X (.Name (Str.ofString (tyN kn)) p2) (tC (.ty (tyN kn))) := pe_bltn (g.gl hg2) (g.blt _ hb2) b1 rfl b2 b3
  refine ⟨_, pe_callB call_isi (g.gl hg1) (g.blt _ hb1) PyProof.Rows.boot_isinstance (pa_cons pa (pa_cons pk pa_nil (starEach_pl rfl)) (starEach_pl hp)) (by decide) (by decide) (starEach_pl hp) (starEach_any rfl), fun σ H env μ H0 m Q rm en h => ?_⟩
  simp only [evE] at h
  refine aa.bnd rm en h fun d μ1 v H1 H01 m1 rm1 s1 r1 en1 h1 => ?_
  unfold isiD at h1
  split at h1
  · rename_i n e
    have t2 := tyOf_ok rm1 r1 e
    refine ⟨v, .ty (tyN kn), .type (tyN n), .type (tyN kn), isB n kn, rfl, .ty _, t2, kit_ty (kit_tab n kn hk), ?_⟩
    exact h1 _ _ _ _ rm1 s1 (rep_bl.mpr (by simp [isAny]))
  · exact h1.elim⟩

/-! ### methods -/
theorem tyChk_ok {n : Ty} {x : D} {μ : Mem} {P : Unit → Mem → Prop} {E : Exn → Mem → Prop} (h : Sat (tyChk n x μ) P E) : tyOf μ x = some n ∧ P () μ := by
  unfold tyChk at h
  split at h
  · exact ⟨by assumption, h⟩
  · exact h.elim
theorem tyV_ok {K : PySem.W.Frag} {H H0 : Hp} {m : List Addr} {μ : Mem} {d : D} {v : V} {n : Ty} (rm : RelM K H H0 m μ) (r : rep K H0 m d v) (h : tyOf μ d = some n) (hn : n = .lst ∨ n = .str ∨ n = .dct) : tyV K (tyN n) v H := by
  unfold tyOf at h
  split at h
  · cases h; simp at hn
  · cases h; simp at hn
  · cases h; simp at hn
  · cases h; rw [rep_str.mp r]; rfl
  · cases h; simp only [rep, repT] at r; obtain ⟨a, vs, rfl, h1, _⟩ := r; exact .inl ⟨rfl, _, .of (rm.same _ _ h1)⟩
  · cases h; simp at hn
  · cases h; simp only [rep, repT] at r; obtain ⟨a, vs, rfl, h1, _⟩ := r; exact .inr (.inr (.inl ⟨rfl, .inl ⟨_, rm.same _ _ h1⟩⟩))
  · cases h; simp only [rep, repT] at r; obtain ⟨a, vs, rfl, h1, _⟩ := r; exact .inr (.inr (.inl ⟨rfl, .inr ⟨_, rm.same _ _ h1⟩⟩))
  · cases h
  · cases h; simp at hn
  · simp only [rep] at r
    obtain ⟨a, h1, rfl⟩ := r
    split at h
    · rename_i h2; cases h; obtain ⟨_, vs, h3, _⟩ := rm.ref h1 h2; exact .inl ⟨rfl, _, .of h3⟩
    · rename_i h2; cases h; obtain ⟨_, vs, h3, _⟩ := rm.ref h1 h2; exact .inr (.inr (.inl ⟨rfl, .inl ⟨_, h3⟩⟩))
    · rename_i h2; cases h; obtain ⟨_, vs, h3, _⟩ := rm.ref h1 h2; exact .inr (.inr (.inl ⟨rfl, .inr ⟨_, h3⟩⟩))
    · cases h
/-- a method's call by values -/
def MthA (X : Cx) (m : Mth) (id : String) : Prop := ∃ r, MtR X id r ∧ ∀ (x : D) (v : V) (ds : List D) (vs : List V) (H H0 : Hp) (mm : List Addr) (μ : Mem) (Q : VK) (P : D → Mem → Prop) (E : Exn → Mem → Prop),
  RelM X.K H H0 mm μ → rep X.K H0 mm x v → reps X.K H0 mm ds vs → Sat (mthD m x ds μ) P E → (∀ d μ, P d μ → PostE X.K Q H H0 mm d μ) → r v vs H Q
theorem few_pl {env : Env} {pos : Pos} {es : List Expr} (h : es.all plX = true) (hn : es.length < 30) : ((backTo pos (starEach es env)).all (fun x => !x.1) && (backToKw pos (keywordEach [] env)).all (fun x => x.1.isSome)
      && decide (es.length + ([] : List Keyword).length + (if ([] : List Keyword).isEmpty then 0 else 1) < 30)) = true := by
  have h1 := starEach_any (env := env) (pos := pos) h
  have h2 : (backTo pos (starEach es env)).all (fun x => !x.1) = true := by
    rw [List.all_eq_not_any_not]
    simp only [Bool.not_not, Bool.not_eq_true', h1]
  rw [h2]
  simp only [Bool.true_and, Bool.and_eq_true, decide_eq_true_eq]
  exact ⟨rfl, by simpa using hn⟩
def mthI : Mth → Str × String
  | .append => ("append", "list.append") | .pop => ("pop", "list.pop") | .clear => ("clear", "list.clear") | .remove => ("remove", "list.remove") | .insert => ("insert", "list.insert") | .extend => ("extend", "list.extend")
  | .dget => ("get", "dict.get") | .dclear => ("clear", "dict.clear") | .dupd => ("update", "dict.update")
structure MthF (T : Ty) (nm : Str) (id : String) : Prop where
  pa : PlainAttrs (tyN T)
  slot : Slot (tyN T) nm id
  hty : typeOf (.builtin id) = pure (.type "method_descriptor")
  ht : T = .lst ∨ T = .str ∨ T = .dct
theorem mthF (m : Mth) : MthF (mthT m) (mthI m).1 (mthI m).2 := by
  cases m
  · exact ⟨PySem.F.plainAttrs_list, PySem.F.slot_list_append, PySem.F.type_list_append, .inl rfl⟩
  · exact ⟨PySem.F.plainAttrs_list, PySem.F.slot_list_pop, PySem.F.type_list_pop, .inl rfl⟩
  · exact ⟨PySem.F.plainAttrs_list, PySem.F.slot_list_clear, PySem.F.type_list_clear, .inl rfl⟩
  · exact ⟨PySem.F.plainAttrs_list, PySem.F.slot_list_remove, PySem.F.type_list_remove, .inl rfl⟩
  · exact ⟨PySem.F.plainAttrs_list, PySem.F.slot_list_insert, PySem.F.type_list_insert, .inl rfl⟩
  · exact ⟨PySem.F.plainAttrs_list, PySem.F.slot_list_extend, PySem.F.type_list_extend, .inl rfl⟩
  · exact ⟨PySem.F.plainAttrs_dict, PySem.F.slot_dict_get, PySem.F.type_dict_get, .inr (.inr rfl)⟩
  · exact ⟨PySem.F.plainAttrs_dict, PySem.F.slot_dict_clear, PySem.F.type_dict_clear, .inr (.inr rfl)⟩
  · exact ⟨PySem.F.plainAttrs_dict, PySem.F.slot_dict_update, PySem.F.type_dict_update, .inr (.inr rfl)⟩
/-! ### dicts' methods by values -/
theorem mtd_get2 {X : Cx} (hu : X.A.units + 1 < cLine) : MtR X "dict.get" (fun x vs H Q => ∃ (a : Addr) (y z : V) (o : Option V), x = .ref a ∧ vs = [y, z] ∧ DGet H a y o ∧ Q (o.getD z) H) := by
  intro pins s σ H x vs v us Q I rx rv h
  obtain ⟨a, y, z, o, rfl, rfl, g, q⟩ := h
  cases rx
  obtain ⟨u1, u2, rfl, r1, r2⟩ := rv.two
  exact d_get2 hu I g r1 r2 fun w s' J rw' => ⟨_, H, J, rw', q⟩
theorem mtd_upd {X : Cx} : MtR X "dict.update" (fun x vs H Q => ∃ (a b : Addr) (kvs more : List (Key × V)), x = .ref a ∧ vs = [.ref b] ∧ a ≠ b ∧ H a = some (.dK kvs) ∧ H b = some (.dK more) ∧ kvs.length + more.length ≤ sizeLine ∧
    Q .non (upd H a (.dK (mergeK kvs more)))) := by
  intro pins s σ H x vs v us Q I rx rv h
  obtain ⟨a, b, kvs, more, rfl, rfl, hne, ha, hb, hz, q⟩ := h
  cases rx
  obtain ⟨u, rfl, ru⟩ := rv.one
  cases ru
  obtain ⟨_, la, vs1, r1, d1⟩ := dk_of I.hok ha
  obtain ⟨_, lb, vs2, r2, d2⟩ := dk_of I.hok hb
  refine call_meetsIn PySem.F.slot_dict_update d1.typeIs PySem.F.entry_dict_update (PySem.F.args_dict_update_2 _ _) (meets_dict_update (mixKind X.prog X.w) a b hne lb)
    ⟨vs1, vs2, d1, d2, by rw [← KV.length r1, ← KV.length r2]; exact hz, fun h' d1' _ hs => ?_⟩
  have hl := length_mergeK more kvs
  have he : ∃ o, h'.get? a = some o := let ⟨o, _, _, ho, _⟩ := d1'; ⟨o, ho⟩
  exact ⟨.non, _, d_write I (by rw [ha]; exact True.intro) hs he (dk_new (by omega) la (r2.merge r1) d1'), rfl, q⟩
theorem repK_merge {K : PySem.W.Frag} {H : Hp} {m : List Addr} : ∀ {md : List (Key × D)} {mv : List (Key × V)} {kds : List (Key × D)} {kvs : List (Key × V)}, repK K H m md mv → repK K H m kds kvs → repK K H m (mergeD kds md) (mergeK kvs mv)
  | [], _, _, _, h, g => by
    subst h
    exact g
  | (k, d) :: md, _, kds, kvs, h, g => by
    obtain ⟨v, r, rfl, h1, h2⟩ := h
    have q := repK_merge h2 (repK_put (k := k) g h1)
    exact q
theorem mthA (X : Cx) (hu : X.A.units + 64 < cLine) (m : Mth) : MthA X m (mthI m).2 := by
  cases m with
  | append =>
    refine ⟨rAppend, mt_append, fun x v ds vs H H0 mm μ Q P E rm rx r h hP => ?_⟩
    unfold mthD at h
    split at h
    any_goals (rename_i z; cases z; done)
    all_goals first | exact h.elim | skip
    rename_i c d _
    simp only [reps] at r
    obtain ⟨w, _, rfl, r1, rfl⟩ := r
    simp only [rep] at rx
    obtain ⟨a, h1, rfl⟩ := rx
    split at h
    · rename_i xs h2
      obtain ⟨h0, us, h3, h4⟩ := rm.ref h1 h2
      split at h
      · rename_i hz
        refine ⟨a, us, w, rfl, rfl, h3, by rw [← reps_len h4]; exact hz, ?_⟩
        refine hP _ _ h .non _ H0 mm (rm.setC h1 h0 ⟨h0, us ++ [w], upd_same, reps_append h4 ?_⟩) (Step.setC h1) (rep_non.mpr rfl)
        simp only [reps]
        exact ⟨w, [], rfl, r1, rfl⟩
      · exact h.elim
    · exact h.elim
  | pop =>
    refine ⟨rPop, mt_pop, fun x v ds vs H H0 mm μ Q P E rm rx r h hP => ?_⟩
    unfold mthD at h
    split at h
    any_goals (rename_i z; cases z; done)
    all_goals first | exact h.elim | skip
    rename_i c _
    simp only [reps] at r
    subst r
    simp only [rep] at rx
    obtain ⟨a, h1, rfl⟩ := rx
    split at h
    · rename_i xs h2
      obtain ⟨h0, us, h3, h4⟩ := rm.ref h1 h2
      split at h
      · rename_i d hd
        obtain ⟨y, y1, y2⟩ := reps_get h4 hd
        refine ⟨a, us, y, rfl, rfl, h3, by rw [← reps_len h4]; exact y1, ?_⟩
        refine hP _ _ h y _ H0 mm (rm.setC h1 h0 ⟨h0, us.dropLast, upd_same, ?_⟩) (Step.setC h1) y2
        rw [List.dropLast_eq_take, List.dropLast_eq_take, reps_len h4]
        exact reps_take _ h4
      · exact h.elim
    · exact h.elim
  | clear =>
    refine ⟨rClear, mt_clear, fun x v ds vs H H0 mm μ Q P E rm rx r h hP => ?_⟩
    unfold mthD at h
    split at h
    any_goals (rename_i z; cases z; done)
    all_goals first | exact h.elim | skip
    rename_i c _
    simp only [reps] at r
    subst r
    simp only [rep] at rx
    obtain ⟨a, h1, rfl⟩ := rx
    split at h
    · rename_i xs h2
      obtain ⟨h0, us, h3, h4⟩ := rm.ref h1 h2
      refine ⟨a, us, rfl, rfl, h3, ?_⟩
      refine hP _ _ h .non _ H0 mm (rm.setC h1 h0 ⟨h0, [], upd_same, ?_⟩) (Step.setC h1) (rep_non.mpr rfl)
      simp only [reps]
    · exact h.elim
  | remove =>
    refine ⟨_, MtR.or mt_remove (mt_removeD hu), fun x v ds vs H H0 mm μ Q P E rm rx r h hP => ?_⟩
    unfold mthD at h
    split at h
    any_goals (rename_i z; cases z; done)
    all_goals first | exact h.elim | skip
    rename_i c i _
    simp only [reps] at r
    obtain ⟨w, _, rfl, r1, rfl⟩ := r
    obtain rfl := rep_int.mp r1
    simp only [rep] at rx
    obtain ⟨a, h1, rfl⟩ := rx
    split at h
    · rename_i xs h2
      obtain ⟨h0, us, h3, h4⟩ := rm.ref h1 h2
      split at h
      · rename_i ns e
        rw [reps_ints h4 e] at h3
        split at h
        · rename_i hi
          obtain ⟨j, j1, j2, j3, j4⟩ := first_at hi
          refine .inl ⟨a, ns, i, j, rfl, rfl, h3, j2, j3, ?_⟩
          rw [j4]
          exact hP _ _ h .non _ H0 mm (rm.setC h1 h0 ⟨h0, (ns.erase i).map V.int, upd_same, reps_of_ints _⟩) (Step.setC h1) (rep_non.mpr rfl)
        · exact h.elim
      · exact h.elim
    · exact h.elim
    rename_i c i j _
    simp only [reps] at r
    obtain ⟨w, _, rfl, r1, rfl⟩ := r
    simp only [rep] at rx
    obtain ⟨a, h1, rfl⟩ := rx
    split at h
    · rename_i xs h2
      obtain ⟨h0, us, h3, h4⟩ := rm.ref h1 h2
      split at h
      · rename_i ps e
        split at h
        · rename_i n hn
          refine .inr ⟨a, us, w, ps.map (fun p => PyData.tuple [.int p.1, .int p.2]), .tuple [.int i, .int j], n, rfl, rfl, h3, prs_dps rm.same h4 e, dp_of rfl (repT.mono rm.same r1), plain_prs ps, rfl, show (PyData.tuple [.int 0, .int 0]).depth ≤ 62 from by decide, ?_, ?_⟩
          · rw [place_prs]
            exact hn
          · refine hP _ _ h .non _ H0 mm (rm.setC h1 h0 ⟨h0, us.eraseIdx n, upd_same, ?_⟩) (Step.setC h1) (rep_non.mpr rfl)
            rw [List.eraseIdx_eq_take_drop_succ, List.eraseIdx_eq_take_drop_succ]
            exact reps_append (reps_take _ h4) (reps_drop _ h4)
        · exact h.elim
      · exact h.elim
    · exact h.elim
  | insert =>
    refine ⟨_, mt_insert, fun x v ds vs H H0 mm μ Q P E rm rx r h hP => ?_⟩
    unfold mthD at h
    split at h
    any_goals (rename_i z; cases z; done)
    all_goals first | exact h.elim | skip
    rename_i c i d _
    simp only [reps] at r
    obtain ⟨w, _, rfl, r1, w2, _, rfl, r2, rfl⟩ := r
    obtain rfl := rep_int.mp r1
    simp only [rep] at rx
    obtain ⟨a, h1, rfl⟩ := rx
    split at h
    · rename_i xs h2
      obtain ⟨h0, us, h3, h4⟩ := rm.ref h1 h2
      split at h
      · rename_i hz
        refine ⟨a, us, i, w2, rfl, rfl, h3, by rw [← reps_len h4]; exact hz.1, hz.2.1, by have := hz.2.2; omega, ?_⟩
        refine hP _ _ h .non _ H0 mm (rm.setC h1 h0 ⟨h0, us.take i.toNat ++ [w2] ++ us.drop i.toNat, upd_same, reps_append (reps_append (reps_take _ h4) ?_) (reps_drop _ h4)⟩) (Step.setC h1) (rep_non.mpr rfl)
        simp only [reps]
        exact ⟨w2, [], rfl, r2, rfl⟩
      · exact h.elim
    · exact h.elim
  | extend =>
    refine ⟨rExtend, mt_extend, fun x v ds vs H H0 mm μ Q P E rm rx r h hP => ?_⟩
    unfold mthD at h
    split at h
    any_goals (rename_i z; cases z; done)
    all_goals first | exact h.elim | skip
    rename_i c d _
    simp only [reps] at r
    obtain ⟨w, _, rfl, r1, rfl⟩ := r
    simp only [rep] at rx
    obtain ⟨a, h1, rfl⟩ := rx
    split at h
    · rename_i xs es h2 e
      obtain ⟨h0, us, h3, h4⟩ := rm.ref h1 h2
      obtain ⟨b, ws, rfl, h5, h6⟩ := rm.lstN r1 e
      split at h
      · rename_i hz
        refine ⟨a, b, us, ws, rfl, rfl, h3, h5, by rw [← reps_len h4, ← reps_len h6]; exact hz, ?_⟩
        exact hP _ _ h .non _ H0 mm (rm.setC h1 h0 ⟨h0, us ++ ws, upd_same, reps_append h4 h6⟩) (Step.setC h1) (rep_non.mpr rfl)
      · exact h.elim
    · exact h.elim
  | dget =>
    refine ⟨_, mtd_get2 (by omega), fun x v ds vs H H0 mm μ Q P E rm rx r h hP => ?_⟩
    unfold mthD at h
    split at h
    any_goals (rename_i z; cases z; done)
    all_goals first | exact h.elim | skip
    rename_i o y z _
    simp only [reps] at r
    obtain ⟨w, _, rfl, r1, w2, _, rfl, r2, rfl⟩ := r
    have fin : ∀ {go : Option D} {ov : Option V}, (match go with | some d => ∃ z, ov = some z ∧ rep X.K H0 mm d z | none => ov = none) → rep X.K H0 mm (go.getD z) (ov.getD w2) := fun {go ov} g => by
      cases go with
      | none => subst g; exact r2
      | some d => obtain ⟨z, rfl, g⟩ := g; exact g
    split at h
    · rename_i kds e1
      split at h
      · rename_i kk e2
        obtain ⟨a, ov, rfl, g, gr⟩ := rm.dget rx r1 e1 e2
        exact ⟨a, w, w2, ov, rfl, rfl, g, (hP _ _ h).scal rm (fin gr)⟩
      · exact h.elim
    · split at h
      · rename_i kds e1
        split at h
        · rename_i kk e2
          obtain ⟨a, ov, rfl, g, gr⟩ := rm.dgetT rx r1 e1 e2
          exact ⟨a, w, w2, ov, rfl, rfl, g, (hP _ _ h).scal rm (fin gr)⟩
        · exact h.elim
      · exact h.elim
  | dclear =>
    refine ⟨rDClear, mtd_clear, fun x v ds vs H H0 mm μ Q P E rm rx r h hP => ?_⟩
    unfold mthD at h
    split at h
    any_goals (rename_i z; cases z; done)
    all_goals first | exact h.elim | skip
    rename_i c _
    simp only [reps] at r
    subst r
    simp only [rep] at rx
    obtain ⟨a, h1, rfl⟩ := rx
    split at h
    · rename_i xs h2
      obtain ⟨h0, us, h3, h4⟩ := rm.ref h1 h2
      refine ⟨a, us, rfl, rfl, h3, ?_⟩
      exact hP _ _ h .non _ H0 mm (rm.setC h1 h0 ⟨h0, [], upd_same, rfl⟩) (Step.setC h1) (rep_non.mpr rfl)
    · exact h.elim
  | dupd =>
    refine ⟨_, mtd_upd, fun x v ds vs H H0 mm μ Q P E rm rx r h hP => ?_⟩
    unfold mthD at h
    split at h
    any_goals (rename_i z; cases z; done)
    all_goals first | exact h.elim | skip
    rename_i c d _
    simp only [reps] at r
    obtain ⟨w, _, rfl, r1, rfl⟩ := r
    simp only [rep] at rx
    obtain ⟨a, h1, rfl⟩ := rx
    split at h
    · rename_i kds more h2
      obtain ⟨h0, us, h3, h4⟩ := rm.ref h1 h2
      obtain ⟨b, mv, rfl, h5, h6⟩ := rm.dct (μ := μ) r1 rfl
      have h5' : H0 b = some (.dK mv) ∨ True := .inr trivial
      have hab : a ≠ b := fun e => by
        subst e
        simp only [rep, repT] at r1
        obtain ⟨_, _, e, h7, _⟩ := r1
        cases e
        rw [h0] at h7
        cases h7
      split at h
      · rename_i hz
        refine ⟨a, b, us, mv, rfl, rfl, hab, h3, h5, by rw [← repK_len h4, ← repK_len h6]; simpa using hz, ?_⟩
        exact hP _ _ h .non _ H0 mm (rm.setC h1 h0 ⟨h0, mergeK us mv, upd_same, repK_merge h6 h4⟩) (Step.setC h1) (rep_non.mpr rfl)
      · exact h.elim
    · exact h.elim
theorem mth_post {X : Cx} {W : WX} {m : Mth} {t : TA} {to : TE} {eo : E} {es : Es} {r : V → List V → Hp → VK → Prop} (ao : Ans X W to (evE Γ.F eo)) (aa : AnsG reps X W t (evEs Γ.F es))
    (hr2 : ∀ (x : D) (v : V) (ds : List D) (vs : List V) (H H0 : Hp) (mm : List Addr) (μ : Mem) (Q : VK) (P : D → Mem → Prop) (E : Exn → Mem → Prop),
      RelM X.K H H0 mm μ → rep X.K H0 mm x v → reps X.K H0 mm ds vs → Sat (mthD m x ds μ) P E → (∀ d μ, P d μ → PostE X.K Q H H0 mm d μ) → r v vs H Q) : Ans X W (tBM X.K (tyN (mthT m)) r to t) (evE Γ.F (.mth m eo es)) := fun σ H env μ H0 mm Q rm en h => by
  simp only [evE] at h
  refine ao.bnd rm en h fun d μ1 v H1 H01 m1 rm1 s1 r1 en1 h1 => ?_
  obtain ⟨e1, h2⟩ := tyChk_ok (Sat.bnd h1)
  refine ⟨tyV_ok rm1 r1 e1 (mthF m).ht, ?_⟩
  refine aa.bnd rm1 en1 h2 fun ds μ2 vs H2 H02 m2 rm2 s2 r2 en2 h3 => ?_
  exact hr2 d v ds vs H2 H02 m2 μ2 Q _ _ rm2 (r1.step s2) r2 h3 fun x μ3 q => PostE.later (Q := Q) q (s1.trans s2)
theorem ve_mth {m : Mth} {o a : Expr} {eo : E} {es : Es} {xs : List Expr} {nm : Str} {apos : Pos} (hn : nm = (mthI m).1) (hr : rcvX o = true) (hl : (apos.endLine == pos.line) = true) (ho : VE Γ k N sc o eo) (ha : VEs Γ k N sc (a :: xs) es) (hz : (a :: xs).length < 30) :
    VE Γ k N sc (.Call (.Attribute o nm apos) (a :: xs) [] pos) (.mth m eo es) := ⟨fun X W g => by
  obtain ⟨to, po, ao⟩ := ho.run X W g
  obtain ⟨ta, paa, aa⟩ := ha.run X W g
  obtain ⟨r, hr1, hr2⟩ := mthA X (by have := g.hu; omega) m
  have hp := ha.pl
  have hp' := hp
  simp only [List.all_cons, Bool.and_eq_true] at hp'
  subst hn
  have F := mthF m
  exact ⟨_, pe_bm F.pa F.slot F.hty hr1 po paa (attr_pl hr) (few_pl hp hz) hl (starEach_pl hp'.1) (starEach_any hp'.2), mth_post ao aa hr2⟩⟩
theorem ve_mth0 {m : Mth} {o : Expr} {eo : E} {nm : Str} {apos : Pos} (hn : nm = (mthI m).1) (hr : rcvX o = true) (hl : (apos.endLine == pos.line) = true) (ho : VE Γ k N sc o eo) :
    VE Γ k N sc (.Call (.Attribute o nm apos) [] [] pos) (.mth m eo .nil) := ⟨fun X W g => by
  obtain ⟨to, po, ao⟩ := ho.run X W g
  obtain ⟨r, hr1, hr2⟩ := mthA X (by have := g.hu; omega) m
  subst hn
  have F := mthF m
  refine ⟨_, pe_bm0 F.pa F.slot F.hty hr1 po (attr_pl hr) hl, ?_⟩
  exact fun σ H env μ H0 mm Q rm en h => mth_post ao nil_ans hr2 σ H env μ H0 mm Q rm en h⟩
end
end MI
/-! MI5: targets, what is walked, comprehensions. -/
namespace MI
open PySem PySem.Spec PyProof.Rows L2
variable {Γ : Gam} {k : Nat} {N : List Str} {sc : Sco} {pos : Pos}

/-! ### targets -/
mutual
def tgIn (vs : List Nat) : Tg → Bool
  | .nm i => vs.contains i
  | .tp ts => tgsIn vs ts
def tgsIn (vs : List Nat) : List Tg → Bool
  | [] => true
  | t :: ts => tgIn vs t && tgsIn vs ts
end
def tgX : Expr → Bool
  | .Name .. => true | .Tuple .. => true
  | _ => false
theorem wipe_set_in {σ : L2.St} {i : Nat} {x : Option V} : ∀ {vs : List Nat}, i ∈ vs → wipe (σ.set i x) vs = wipe σ vs
  | v :: vs, h => by
    by_cases e : v = i
    · subst e
      unfold wipe
      by_cases hv : v ∈ vs
      · rw [wipe_set_in hv]
      · have : ∀ (τ : L2.St), wipe (τ.set v x) vs = (wipe τ vs).set v x := fun τ => by
          clear h
          induction vs with
          | nil => rfl
          | cons w vs ih =>
            simp only [List.mem_cons, not_or] at hv
            unfold wipe
            rw [ih hv.2, List.set_comm _ _ hv.1]
        rw [this, List.set_set]
    · have hi : i ∈ vs := by
        rcases List.mem_cons.mp h with z | z
        · exact absurd z.symm e
        · exact z
      unfold wipe
      rw [wipe_set_in hi]
theorem wipe_wipe {σ : L2.St} : ∀ {us vs : List Nat}, (∀ i ∈ us, i ∈ vs) → wipe (wipe σ us) vs = wipe σ vs
  | [], _, _ => rfl
  | u :: us, vs, h => by
    show wipe ((wipe σ us).set u none) vs = _
    rw [wipe_set_in (h u (by simp)), wipe_wipe fun i hi => h i (by simp [hi])]
def AnsT (X : Cx) (t : TG) (f : D → Envv → Option Envv) (tg : List Nat → Bool) : Prop := ∀ σ H env env' H0 m d v (Q : L2.St → Hp → Prop) , Same H0 H → EnvOk X.K H0 m env σ → rep X.K H0 m d v → f d env = some env' →
  (∀ σ', EnvOk X.K H0 m env' σ' → (∀ vs, tg vs = true → wipe σ' vs = wipe σ vs) → Q σ' H) → t v σ H Q
def AnsTs (X : Cx) (t : TGs) (f : List D → Envv → Option Envv) (tg : List Nat → Bool) : Prop := ∀ σ H env env' H0 m d v (Q : L2.St → Hp → Prop) , Same H0 H → EnvOk X.K H0 m env σ → reps X.K H0 m d v → f d env = some env' →
  (∀ σ', EnvOk X.K H0 m env' σ' → (∀ vs, tg vs = true → wipe σ' vs = wipe σ vs) → Q σ' H) → t v σ H Q
structure VG (Γ : Gam) (k : Nat) (N : List Str) (sc : Sco) (x : Expr) (tg : Tg) : Prop where
  tx : tgX x = true
  run : ∀ X W, Gd Γ k N sc X W → ∃ t, PG X x t ∧ AnsT X t (asgT tg) (fun vs => tgIn vs tg)
structure VGs (Γ : Gam) (k : Nat) (N : List Str) (sc : Sco) (xs : List Expr) (tgs : List Tg) : Prop where
  tx : xs.all tgX = true
  run : ∀ X W, Gd Γ k N sc X W → ∃ t, PGs X xs t ∧ AnsTs X t (asgTs tgs) (fun vs => tgsIn vs tgs)
theorem vg_nm {i : Nat} {x : Str} (h1 : N[i]? = some x) (h2 : locS sc x = true) : VG Γ k N sc (.Name x pos) (.nm i) := ⟨rfl, fun X W g => by
  obtain ⟨l1, l2⟩ := g.loc h2
  refine ⟨_, pg_name (i := i) (by rw [g.hN]; exact g.nd) (by rw [g.hN]; exact h1) l1 l2, fun σ H env env' H0 m d v Q s en r e q => ?_⟩
  simp only [asgT, Option.some.injEq] at e
  subst e
  refine q _ (en.set r) fun vs hv => ?_
  simp only [tgIn, List.contains_iff_mem] at hv
  exact wipe_set_in hv⟩
theorem vgs_nil : VGs Γ k N sc [] [] := ⟨rfl, fun X W g => ⟨_, pgs_nil, fun σ H env env' H0 m d v Q s en r e q => by
  cases d with
  | nil =>
    simp only [reps] at r
    simp only [asgTs, Option.some.injEq] at e
    subst e
    exact ⟨r, q σ en fun _ _ => rfl⟩
  | cons d ds => simp [asgTs] at e⟩⟩
theorem assignEach_tg {e : Expr} {es : List Expr} {env : Env} (h : tgX e = true) : assignEach (e :: es) env = (false, assign e env) :: assignEach es env := by
  cases e <;> first | rfl | (exact nomatch h)
theorem assignEach_all {env : Env} : ∀ {es : List Expr}, es.all tgX = true → (assignEach es env).length = es.length ∧ (assignEach es env).findIdx? (·.1) = none
  | [], _ => ⟨rfl, rfl⟩
  | e :: es, h => by
    simp only [List.all_cons, Bool.and_eq_true] at h
    obtain ⟨h1, h2⟩ := assignEach_all (env := env) h.2
    rw [assignEach_tg h.1]
    refine ⟨by simp [h1], ?_⟩
    rw [List.findIdx?_cons]
    simp [h2]
theorem vgs_cons {x : Expr} {xs : List Expr} {t : Tg} {ts : List Tg} (h : VG Γ k N sc x t) (hs : VGs Γ k N sc xs ts) : VGs Γ k N sc (x :: xs) (t :: ts) := ⟨by simp [h.tx, hs.tx], fun X W g => by
  obtain ⟨t1, p1, a1⟩ := h.run X W g
  obtain ⟨t2, p2, a2⟩ := hs.run X W g
  refine ⟨_, pgs_cons p1 p2 (by rw [assignEach_tg h.tx]; rfl), fun σ H env env' H0 m d v Q s en r e q => ?_⟩
  cases d with
  | nil => simp [asgTs] at e
  | cons d ds =>
    simp only [reps] at r
    obtain ⟨w, vr, rfl, r1, r2⟩ := r
    simp only [asgTs] at e
    split at e
    · rename_i env1 e1
      refine ⟨w, vr, rfl, a1 σ H env env1 H0 m d w _ s en r1 e1 fun σ1 en1 w1 => ?_⟩
      refine a2 σ1 H env1 env' H0 m ds vr Q s en1 r2 e fun σ2 en2 w2 => q σ2 en2 fun vs hv => ?_
      simp only [tgsIn, Bool.and_eq_true] at hv
      rw [w2 vs hv.2, w1 vs hv.1]
    · cases e⟩
theorem tupOf_ok {K : PySem.W.Frag} {H H0 : Hp} {m : List Addr} {d : D} {v : V} {ds : List D} (s : Same H0 H) (r : rep K H0 m d v) (h : tupOf d = some ds) : ∃ a vs, v = .ref a ∧ H a = some (.tup vs) ∧ reps K H0 m ds vs := by
  unfold tupOf at h
  split at h
  · cases h
    simp only [rep, repT] at r
    obtain ⟨a, vs, e, h1, h2⟩ := r
    exact ⟨a, vs, e, s _ _ h1, repT_ts.mp h2⟩
  · cases h
    simp only [rep] at r
    obtain ⟨a, vs, e, h1, h2⟩ := r
    exact ⟨a, vs, e, s _ _ h1, h2⟩
  · cases h
theorem asgTs_len : ∀ {ts : List Tg} {ds : List D} {env env' : Envv}, asgTs ts ds env = some env' → ts.length = ds.length
  | [], [], _, _, _ => rfl
  | [], _ :: _, _, _, h => by simp [asgTs] at h
  | _ :: _, [], _, _, h => by simp [asgTs] at h
  | t :: ts, d :: ds, env, env', h => by
    simp only [asgTs] at h
    split at h
    · simp [asgTs_len h]
    · cases h
theorem vg_tp {xs : List Expr} {ts : List Tg} {j : Nat} (hs : VGs Γ k N sc xs ts) (hl : xs.length = ts.length) : VG Γ k N sc (.Tuple xs j pos) (.tp ts) := ⟨rfl, fun X W g => by
  obtain ⟨t2, p2, a2⟩ := hs.run X W g
  obtain ⟨h1, h2⟩ := assignEach_all (env := X.env) hs.tx
  have pg : PG X (.Tuple xs j pos) (fun v σ H Q => gTup X.K xs.length t2 v σ H Q ∨ gLst X.K xs.length t2 v σ H Q) := ⟨fun pins s σ H v u Q I rv hw => by
    rcases hw with hw | hw
    · exact (pg_tup g.calm p2 h1 h2).run pins s σ H v u Q I rv hw
    · exact (pg_lst g.calm p2 h1 h2).run pins s σ H v u Q I rv hw⟩
  refine ⟨_, pg, fun σ H env env' H0 m d v Q s en r e q => ?_⟩
  simp only [asgT] at e
  split at e
  · rename_i ds e1
    obtain ⟨a, vs, rfl, r1, r2⟩ := tupOf_ok s r e1
    refine .inl ⟨a, vs, rfl, .of r1, by rw [← reps_len r2, ← asgTs_len e, hl], ?_⟩
    exact a2 σ H env env' H0 m ds vs Q s en r2 e fun σ' en' w => q σ' en' fun vs hv => w vs (by simpa only [tgIn] using hv)
  · split at e
    · rename_i ds e1
      unfold lstT at e1
      split at e1
      · cases e1
        have r' := r
        simp only [rep, repT] at r'
        obtain ⟨a, vs, rfl, r1, r2⟩ := r'
        have r3 : reps X.K H0 m (_) vs := repT_ts.mp r2
        refine .inr ⟨a, vs, rfl, .of (s _ _ r1), by rw [← reps_len r3, ← asgTs_len e, hl], ?_⟩
        exact a2 σ H env env' H0 m _ vs Q s en r3 e fun σ' en' w => q σ' en' fun vs hv => w vs (by simpa only [tgIn] using hv)
      · cases e1
    · cases e⟩

/-! ### what is walked -/
/-- of an iterator J: it goes as long as items stand; what it yields stands for the items -/
structure Goes (K : PySem.W.Frag) (J : L2.It) (ds : List D) (w : Watch) (H0 : Hp) (m : List Addr) (H : Hp) : Prop where
  go : ∀ i H2 H02 m2 μ2, i < ds.length → RelM K H2 H02 m2 μ2 → Step H H0 m H2 H02 m2 → WOk μ2 w → J.go i H2
  stop : ∀ H2 H02 m2 μ2, RelM K H2 H02 m2 μ2 → Step H H0 m H2 H02 m2 → WOk μ2 w → J.stop ds.length H2
  yld : ∀ i H2 H02 m2 μ2 x H3, i < ds.length → RelM K H2 H02 m2 μ2 → Step H H0 m H2 H02 m2 → WOk μ2 w → J.yld i H2 x H3 →
    ∃ H03 d, ds[i]? = some d ∧ RelM K H3 H03 m2 μ2 ∧ Step H2 H02 m2 H3 H03 m2 ∧ rep K H03 m2 d x
def AnsI (X : Cx) (W : WX) (wi : TI) (c : Envv → M (List D × Watch)) : Prop := ∀ σ H env μ H0 m (R : L2.It → Hp → Prop), RelM X.K H H0 m μ → EnvOk X.K H0 m env σ →
  Sat (c env μ) (fun p μ' => ∀ J H' H0' m', RelM X.K H' H0' m' μ' → Step H H0 m H' H0' m' → Goes X.K J p.1 p.2 H0' m' H' → R J H') (PostX X.mg X.K (fun a b => W a b σ) H H0 m) → wi σ H R
structure VI (Γ : Gam) (k : Nat) (N : List Str) (sc : Sco) (tg x : Expr) (it : It) : Prop where
  pl : plX x = true
  run : ∀ X W, Gd Γ k N sc X W → ∃ wi, PI X tg x wi ∧ AnsI X W wi (evI Γ.F it)
/-- a list, as it is met later -/
theorem live {K : PySem.W.Frag} {H H0 : Hp} {m : List Addr} {μ : Mem} {x : D} {v : V} {ds : List D} (rm : RelM K H H0 m μ) (r : rep K H0 m x v) (h : lstOf μ x = some ds) :
    ∃ a, v = .ref a ∧ ∀ {H2 H02 : Hp} {m2 : List Addr} {μ2 : Mem}, RelM K H2 H02 m2 μ2 → Step H H0 m H2 H02 m2 → WOk μ2 (watchL x ds) → ∃ vs, SqL K H2 a vs ∧ reps K H02 m2 ds vs := by
  unfold lstOf at h
  split at h
  · cases h
    simp only [rep, repT] at r
    obtain ⟨a, vs, rfl, h1, h2⟩ := r
    exact ⟨a, rfl, fun rm2 s2 _ => ⟨vs, .of (rm2.same _ _ (s2.same _ _ h1)), reps.step (repT_ts.mp h2) s2⟩⟩
  · cases h
    simp only [rep, repT] at r
    obtain ⟨a, rfl, h1⟩ := r
    exact ⟨a, rfl, fun rm2 s2 _ => ⟨_, rm2.same.seq (s2.same.seq h1), reps_of_ints _⟩⟩
  · rename_i c
    simp only [rep] at r
    obtain ⟨a, h1, rfl⟩ := r
    split at h
    · cases h
      refine ⟨a, rfl, fun {H2 H02 m2 μ2} rm2 s2 hw => ?_⟩
      have := hw (c, ds) (by simp [watchL])
      obtain ⟨_, vs, h3, h4⟩ := rm2.ref (s2.at _ _ h1) this
      exact ⟨vs, .of h3, h4⟩
    · cases h
  · cases h

theorem goes_list {K : PySem.W.Frag} {H H0 : Hp} {m : List Addr} {μ : Mem} {x : D} {v : V} {ds : List D} (rm : RelM K H H0 m μ) (r : rep K H0 m x v) (h : lstOf μ x = some ds) : ∃ a, v = .ref a ∧ Goes K (Itl K a) ds (watchL x ds) H0 m H := by
  obtain ⟨a, rfl, hl⟩ := live rm r h
  refine ⟨a, rfl, ⟨fun i H2 H02 m2 μ2 hi rm2 s2 hw => ?_, fun H2 H02 m2 μ2 rm2 s2 hw => ?_, fun i H2 H02 m2 μ2 y H3 hi rm2 s2 hw hy => ?_⟩⟩
  · obtain ⟨vs, h1, h2⟩ := hl rm2 s2 hw
    exact ⟨vs, vs[i]'(by rw [← reps_len h2]; exact hi), h1, by simp [← reps_len h2, hi]⟩
  · obtain ⟨vs, h1, h2⟩ := hl rm2 s2 hw
    exact ⟨vs, h1, by rw [reps_len h2]; exact Nat.le_refl _⟩
  · obtain ⟨vs, h1, h2⟩ := hl rm2 s2 hw
    obtain ⟨rfl, hy⟩ := hy
    obtain ⟨z, z1, z2⟩ := reps_get h2 (List.getElem?_eq_getElem hi)
    rw [hy vs h1] at z1
    cases z1
    exact ⟨H02, _, List.getElem?_eq_getElem hi, rm2, Step.refl, z2⟩
theorem goes_tup {K : PySem.W.Frag} {H H0 : Hp} {m : List Addr} {μ : Mem} {x : D} {v : V} {ds : List D} (rm : RelM K H H0 m μ) (r : rep K H0 m x v) (h : tupOf x = some ds) : ∃ a, v = .ref a ∧ Goes K (Itt K a) ds [] H0 m H := by
  have hl : ∃ a, v = .ref a ∧ ∃ vs, H0 a = some (.tup vs) ∧ reps K H0 m ds vs := by
    unfold tupOf at h
    split at h
    · cases h
      simp only [rep, repT] at r
      obtain ⟨a, vs, e, h1, h2⟩ := r
      exact ⟨a, e, vs, h1, repT_ts.mp h2⟩
    · cases h
      simp only [rep] at r
      obtain ⟨a, vs, e, h1, h2⟩ := r
      exact ⟨a, e, vs, h1, h2⟩
    · cases h
  obtain ⟨a, rfl, vs, h1, h2⟩ := hl
  refine ⟨a, rfl, ⟨fun i H2 H02 m2 μ2 hi rm2 s2 hw => ?_, fun H2 H02 m2 μ2 rm2 s2 hw => ?_, fun i H2 H02 m2 μ2 y H3 hi rm2 s2 hw hy => ?_⟩⟩
  · exact ⟨vs, vs[i]'(by rw [← reps_len h2]; exact hi), .of (rm2.same _ _ (s2.same _ _ h1)), by simp [← reps_len h2, hi]⟩
  · exact ⟨vs, .of (rm2.same _ _ (s2.same _ _ h1)), by rw [reps_len h2]; exact Nat.le_refl _⟩
  · obtain ⟨rfl, hy⟩ := hy
    obtain ⟨z, z1, z2⟩ := reps_get h2 (List.getElem?_eq_getElem hi)
    rw [hy vs (.of (rm2.same _ _ (s2.same _ _ h1)))] at z1
    cases z1
    exact ⟨H02, _, List.getElem?_eq_getElem hi, rm2, Step.refl, z2.step s2⟩
theorem rngD_len : ∀ (n : Nat) (lo : Int), (rngD lo n).length = n
  | 0, _ => rfl
  | n + 1, lo => by simp [rngD, rngD_len n]
theorem rngD_get : ∀ (n : Nat) (lo : Int) (i : Nat), i < n → (rngD lo n)[i]? = some (.t (.int (lo + i)))
  | 0, _, _, h => by omega
  | n + 1, lo, 0, _ => by simp [rngD]
  | n + 1, lo, i + 1, h => by
    simp only [rngD, List.getElem?_cons_succ]
    rw [rngD_get n (lo + 1) i (by omega)]
    congr 3
    omega
theorem goes_rng {K : PySem.W.Frag} {H H0 : Hp} {m : List Addr} {lo : Int} {n : Nat} : Goes K (Itr lo n) (rngD lo n) [] H0 m H := by
  refine ⟨fun i H2 H02 m2 μ2 hi rm2 s2 hw => ?_, fun H2 H02 m2 μ2 rm2 s2 hw => ?_, fun i H2 H02 m2 μ2 y H3 hi rm2 s2 hw hy => ?_⟩
  · rw [rngD_len] at hi; exact hi
  · rw [rngD_len]; exact Nat.le_refl _
  · rw [rngD_len] at hi
    obtain ⟨rfl, rfl⟩ := hy
    exact ⟨H02, _, rngD_get n lo i hi, rm2, Step.refl, rep_int.mpr rfl⟩
theorem enumD_len : ∀ (ds : List D) (k : Nat), (enumD k ds).length = ds.length
  | [], _ => rfl
  | .t x :: ds, k => by simp [enumD, enumD_len ds]
  | .ref c :: ds, k => by simp [enumD, enumD_len ds]
  | .tp c :: ds, k => by simp [enumD, enumD_len ds]
theorem enumD_get : ∀ (ds : List D) (k i : Nat) (d : D), ds[i]? = some d → (enumD k ds)[i]? = some (pairD (.t (.int (k + i : Nat))) d)
  | [], _, _, _, h => by simp at h
  | .t x :: ds, k, 0, d, h => by simp at h; subst h; simp [enumD, pairD]
  | .ref c :: ds, k, 0, d, h => by simp at h; subst h; simp [enumD, pairD]
  | .tp c :: ds, k, 0, d, h => by simp at h; subst h; simp [enumD, pairD]
  | .t x :: ds, k, i + 1, d, h => by
    simp only [enumD, List.getElem?_cons_succ] at h ⊢
    rw [enumD_get ds (k + 1) i d h, show k + 1 + i = k + (i + 1) by omega]
  | .ref c :: ds, k, i + 1, d, h => by
    simp only [enumD, List.getElem?_cons_succ] at h ⊢
    rw [enumD_get ds (k + 1) i d h, show k + 1 + i = k + (i + 1) by omega]
  | .tp c :: ds, k, i + 1, d, h => by
    simp only [enumD, List.getElem?_cons_succ] at h ⊢
    rw [enumD_get ds (k + 1) i d h, show k + 1 + i = k + (i + 1) by omega]
/-- a new pair is laid -/
theorem pair_laid {K : PySem.W.Frag} {H H0 : Hp} {m : List Addr} {μ : Mem} {x y : D} {v w : V} {p : Addr} (rm : RelM K H H0 m μ) (rx : rep K H0 m x v) (ry : rep K H0 m y w) (hp : H p = none) :
    ∃ H03, RelM K (upd H p (.tup [v, w])) H03 m μ ∧ Step H H0 m (upd H p (.tup [v, w])) H03 m ∧ rep K H03 m (pairD x y) (.ref p) := by
  have h0 := rm.same.free hp
  have sm := Same.upd (o := .tup [v, w]) h0
  refine ⟨upd H0 p (.tup [v, w]), rm.newF hp, Step.newF rm.same hp, ?_⟩
  have r2 : reps K (upd H0 p (.tup [v, w])) m [x, y] [v, w] := by
    simp only [reps]
    exact ⟨v, [w], rfl, rx.mono sm fun _ _ z => z, w, [], rfl, ry.mono sm fun _ _ z => z, rfl⟩
  unfold pairD
  split
  · rename_i a b
    simp only [rep, repT]
    exact ⟨p, _, rfl, upd_same, (repT_ts (m := m)).mpr r2⟩
  · simp only [rep]
    exact ⟨p, _, rfl, upd_same, r2⟩
theorem goes_enum {K : PySem.W.Frag} {H H0 : Hp} {m : List Addr} {μ : Mem} {x : D} {v : V} {ds : List D} (rm : RelM K H H0 m μ) (r : rep K H0 m x v) (h : lstOf μ x = some ds) : ∃ a, v = .ref a ∧ Goes K (Ite K a) (enumD 0 ds) (watchL x ds) H0 m H := by
  obtain ⟨a, rfl, hl⟩ := live rm r h
  refine ⟨a, rfl, ⟨fun i H2 H02 m2 μ2 hi rm2 s2 hw => ?_, fun H2 H02 m2 μ2 rm2 s2 hw => ?_, fun i H2 H02 m2 μ2 y H3 hi rm2 s2 hw hy => ?_⟩⟩
  · obtain ⟨vs, h1, h2⟩ := hl rm2 s2 hw
    rw [enumD_len] at hi
    exact ⟨vs, vs[i]'(by rw [← reps_len h2]; exact hi), h1, by simp [← reps_len h2, hi]⟩
  · obtain ⟨vs, h1, h2⟩ := hl rm2 s2 hw
    exact ⟨vs, h1, by rw [enumD_len, reps_len h2]; exact Nat.le_refl _⟩
  · obtain ⟨vs, h1, h2⟩ := hl rm2 s2 hw
    rw [enumD_len] at hi
    obtain ⟨T, z, rfl, nT, rfl, hy⟩ := hy
    obtain ⟨z', z1, z2⟩ := reps_get h2 (List.getElem?_eq_getElem hi)
    rw [hy vs h1] at z1
    cases z1
    obtain ⟨H03, q1, q2, q3⟩ := pair_laid (x := .t (.int (i : Nat))) (v := .int (i : Nat)) rm2 (rep_int.mpr rfl) z2 nT
    refine ⟨H03, _, ?_, q1, q2, q3⟩
    rw [enumD_get ds 0 i _ (List.getElem?_eq_getElem hi), Nat.zero_add]
theorem goes_zip {K : PySem.W.Frag} {H H0 : Hp} {m : List Addr} {μ : Mem} {x y : D} {v w : V} {ds es : List D} (rm : RelM K H H0 m μ) (rx : rep K H0 m x v) (ry : rep K H0 m y w) (h : lstOf μ x = some ds) (g : lstOf μ y = some es) :
    ∃ a b, v = .ref a ∧ w = .ref b ∧ Goes K (Itz K a b) (List.zipWith pairD ds es) (watchL x ds ++ watchL y es) H0 m H := by
  obtain ⟨a, rfl, hl⟩ := live rm rx h
  obtain ⟨b, rfl, hg⟩ := live rm ry g
  have w1 : ∀ {μ2 : Mem}, WOk μ2 (watchL x ds ++ watchL y es) → WOk μ2 (watchL x ds) ∧ WOk μ2 (watchL y es) := fun hw => ⟨fun p hp => hw p (List.mem_append_left _ hp), fun p hp => hw p (List.mem_append_right _ hp)⟩
  refine ⟨a, b, rfl, rfl, ⟨fun i H2 H02 m2 μ2 hi rm2 s2 hw => ?_, fun H2 H02 m2 μ2 rm2 s2 hw => ?_, fun i H2 H02 m2 μ2 y H3 hi rm2 s2 hw hy => ?_⟩⟩
  · obtain ⟨vs, h1, h2⟩ := hl rm2 s2 (w1 hw).1
    obtain ⟨ws, g1, g2⟩ := hg rm2 s2 (w1 hw).2
    rw [List.length_zipWith] at hi
    have e1 := reps_len h2
    have e2 := reps_len g2
    exact ⟨vs, ws, vs[i]'(by omega), ws[i]'(by omega), h1, g1, by simp [show i < vs.length by omega], by simp [show i < ws.length by omega]⟩
  · obtain ⟨vs, h1, h2⟩ := hl rm2 s2 (w1 hw).1
    obtain ⟨ws, g1, g2⟩ := hg rm2 s2 (w1 hw).2
    have e1 := reps_len h2
    have e2 := reps_len g2
    exact ⟨vs, ws, h1, g1, by rw [List.length_zipWith]; omega⟩
  · obtain ⟨vs, h1, h2⟩ := hl rm2 s2 (w1 hw).1
    obtain ⟨ws, g1, g2⟩ := hg rm2 s2 (w1 hw).2
    rw [List.length_zipWith] at hi
    have i1 : i < ds.length := by omega
    have i2 : i < es.length := by omega
    obtain ⟨T, z, u, rfl, nT, rfl, hy1, hy2⟩ := hy
    obtain ⟨z', z1, z2⟩ := reps_get h2 (List.getElem?_eq_getElem i1)
    obtain ⟨u', u1, u2⟩ := reps_get g2 (List.getElem?_eq_getElem i2)
    rw [hy1 vs h1] at z1
    rw [hy2 ws g1] at u1
    cases z1
    cases u1
    obtain ⟨H03, q1, q2, q3⟩ := pair_laid rm2 z2 u2 nT
    refine ⟨H03, _, ?_, q1, q2, q3⟩
    rw [List.getElem?_zipWith, List.getElem?_eq_getElem i1, List.getElem?_eq_getElem i2]
theorem tlive {K : PySem.W.Frag} {H H0 : Hp} {m : List Addr} {μ : Mem} {x : D} {v : V} {ds : List D} (rm : RelM K H H0 m μ) (r : rep K H0 m x v) (h : tupOf x = some ds) :
    ∃ a, v = .ref a ∧ ∀ {H2 H02 : Hp} {m2 : List Addr} {μ2 : Mem}, RelM K H2 H02 m2 μ2 → Step H H0 m H2 H02 m2 → ∃ vs, SqT K H2 a vs ∧ reps K H02 m2 ds vs := by
  have hl : ∃ a, v = .ref a ∧ ∃ vs, H0 a = some (.tup vs) ∧ reps K H0 m ds vs := by
    unfold tupOf at h
    split at h
    · cases h
      simp only [rep, repT] at r
      obtain ⟨a, vs, e, h1, h2⟩ := r
      exact ⟨a, e, vs, h1, repT_ts.mp h2⟩
    · cases h
      simp only [rep] at r
      obtain ⟨a, vs, e, h1, h2⟩ := r
      exact ⟨a, e, vs, h1, h2⟩
    · cases h
  obtain ⟨a, rfl, vs, h1, h2⟩ := hl
  exact ⟨a, rfl, fun rm2 s2 => ⟨vs, .of (rm2.same _ _ (s2.same _ _ h1)), h2.step s2⟩⟩
theorem goes_zipT {K : PySem.W.Frag} {H H0 : Hp} {m : List Addr} {μ : Mem} {x y : D} {v w : V} {ds es : List D} (rm : RelM K H H0 m μ) (rx : rep K H0 m x v) (ry : rep K H0 m y w) (h : tupOf x = some ds) (g : tupOf y = some es) :
    ∃ a b, v = .ref a ∧ w = .ref b ∧ Goes K (RZ.ItzT K a b) (List.zipWith pairD ds es) [] H0 m H := by
  obtain ⟨a, rfl, hl⟩ := tlive rm rx h
  obtain ⟨b, rfl, hg⟩ := tlive rm ry g
  refine ⟨a, b, rfl, rfl, ⟨fun i H2 H02 m2 μ2 hi rm2 s2 hw => ?_, fun H2 H02 m2 μ2 rm2 s2 hw => ?_, fun i H2 H02 m2 μ2 y H3 hi rm2 s2 hw hy => ?_⟩⟩
  · obtain ⟨vs, h1, h2⟩ := hl rm2 s2
    obtain ⟨ws, g1, g2⟩ := hg rm2 s2
    rw [List.length_zipWith] at hi
    have e1 := reps_len h2
    have e2 := reps_len g2
    exact ⟨vs, ws, vs[i]'(by omega), ws[i]'(by omega), h1, g1, by simp [show i < vs.length by omega], by simp [show i < ws.length by omega]⟩
  · obtain ⟨vs, h1, h2⟩ := hl rm2 s2
    obtain ⟨ws, g1, g2⟩ := hg rm2 s2
    have e1 := reps_len h2
    have e2 := reps_len g2
    exact ⟨vs, ws, h1, g1, by rw [List.length_zipWith]; omega⟩
  · obtain ⟨vs, h1, h2⟩ := hl rm2 s2
    obtain ⟨ws, g1, g2⟩ := hg rm2 s2
    rw [List.length_zipWith] at hi
    have i1 : i < ds.length := by omega
    have i2 : i < es.length := by omega
    obtain ⟨T, z, u, rfl, nT, rfl, hy1, hy2⟩ := hy
    obtain ⟨z', z1, z2⟩ := reps_get h2 (List.getElem?_eq_getElem i1)
    obtain ⟨u', u1, u2⟩ := reps_get g2 (List.getElem?_eq_getElem i2)
    rw [hy1 vs h1] at z1
    rw [hy2 ws g1] at u1
    cases z1
    cases u1
    obtain ⟨H03, q1, q2, q3⟩ := pair_laid rm2 z2 u2 nT
    refine ⟨H03, _, ?_, q1, q2, q3⟩
    rw [List.getElem?_zipWith, List.getElem?_eq_getElem i1, List.getElem?_eq_getElem i2]
theorem goes_rev {K : PySem.W.Frag} {H H0 : Hp} {m : List Addr} {μ : Mem} {x : D} {v : V} {ds : List D} (rm : RelM K H H0 m μ) (r : rep K H0 m x v) (h : lstOf μ x = some ds) : ∃ a, v = .ref a ∧ Goes K (Itv K a ds.length) ds.reverse (watchL x ds) H0 m H := by
  obtain ⟨a, rfl, hl⟩ := live rm r h
  refine ⟨a, rfl, ⟨fun i H2 H02 m2 μ2 hi rm2 s2 hw => ?_, fun H2 H02 m2 μ2 rm2 s2 hw => ?_, fun i H2 H02 m2 μ2 y H3 hi rm2 s2 hw hy => ?_⟩⟩
  · obtain ⟨vs, h1, h2⟩ := hl rm2 s2 hw
    rw [List.length_reverse] at hi
    have e := reps_len h2
    exact ⟨hi, vs, vs[ds.length - 1 - i]'(by omega), h1, by simp [show ds.length - 1 - i < vs.length by omega]⟩
  · rw [List.length_reverse]; exact Nat.le_refl _
  · obtain ⟨vs, h1, h2⟩ := hl rm2 s2 hw
    rw [List.length_reverse] at hi
    obtain ⟨rfl, hy⟩ := hy
    have i1 : ds.length - 1 - i < ds.length := by omega
    obtain ⟨z, z1, z2⟩ := reps_get h2 (List.getElem?_eq_getElem i1)
    rw [hy vs h1] at z1
    cases z1
    refine ⟨H02, _, ?_, rm2, Step.refl, z2⟩
    rw [List.getElem?_reverse hi, List.getElem?_eq_getElem i1]

/-! ### iterables -/
theorem pi_seq {X : Cx} {tg l : Expr} {tl : TE} (hl : PE X l tl) : PI X tg l (fun σ H R => tl σ H fun x H1 => (∃ a, x = .ref a ∧ (∃ xs, SqL X.K H1 a xs) ∧ R (Itl X.K a) H1) ∨ ∃ a, x = .ref a ∧ (∃ xs, SqT X.K H1 a xs) ∧ R (Itt X.K a) H1) := by
  refine ⟨fun pins s σ H R I h => ?_⟩
  refine thn (hl.run pins s σ H _ I h) fun v s1 ⟨x, H1, I1, r1, q1⟩ => ?_
  rcases q1 with q1 | q1
  · obtain ⟨a, e, ⟨xs, hq⟩, q⟩ := q1
    subst e
    cases r1
    obtain ⟨its, rv, p, hz⟩ := I1.list hq
    refine wpAny_pyIter_list p.isList ?_
    refine ⟨s1.heap.objs.size, [s1.heap.objs.size], _, _, H1, rfl, I1.kept (t' := s1.toks) fun b o e => Heap.get?_push_of_some _ e, turn_list a _, ⟨_, Heap.get?_push_size _ rfl, rfl, rfl⟩, fun b hb => ?_, q⟩
    have e : b = s1.heap.objs.size := by simpa using hb
    subst e
    exact I1.fpOk (Nat.le_refl _) (I1.hok.fresh (Nat.le_refl _))
  · obtain ⟨a, e, ⟨xs, hq⟩, q⟩ := q1
    subst e
    cases r1
    obtain ⟨its, rv, p, hz⟩ := I1.tuple hq
    refine wpAny_pyIter_tuple (show s1.heap.IsTuple a its.toArray from p) ?_
    refine ⟨s1.heap.objs.size, [s1.heap.objs.size], _, _, H1, rfl, I1.kept (t' := s1.toks) fun b o e => Heap.get?_push_of_some _ e, turn_tuple a _, ⟨_, Heap.get?_push_size _ rfl, rfl, rfl⟩, fun b hb => ?_, q⟩
    have e : b = s1.heap.objs.size := by simpa using hb
    subst e
    exact I1.fpOk (Nat.le_refl _) (I1.hok.fresh (Nat.le_refl _))
theorem vi_val {tg x : Expr} {e : E} (hp : plX x = true) (h : VE Γ k N sc x e) : VI Γ k N sc tg x (.val e) := ⟨hp, fun X W g => by
  obtain ⟨ta, pa, aa⟩ := h.run X W g
  refine ⟨_, pi_seq pa, fun σ H env μ H0 m R rm en h => ?_⟩
  simp only [evI] at h
  refine aa.bnd rm en h fun d μ1 v H1 H01 m1 rm1 s1 r1 en1 h1 => ?_
  split at h1
  · rename_i ds e1
    obtain ⟨a, rfl, G⟩ := goes_list rm1 r1 e1
    obtain ⟨_, vs, e2, q, _⟩ := rm1.lst r1 e1
    cases e2
    exact .inl ⟨a, rfl, ⟨vs, q⟩, h1 _ _ _ _ rm1 s1 G⟩
  · split at h1
    · rename_i ds e1
      obtain ⟨a, rfl, G⟩ := goes_tup rm1 r1 e1
      obtain ⟨_, vs, e2, q, _⟩ := rm1.tup r1 e1
      cases e2
      exact .inr ⟨a, rfl, ⟨vs, .of q⟩, h1 _ _ _ _ rm1 s1 G⟩
    · exact h1.elim⟩
theorem vi_rng1 {tg a : Expr} {ea : E} {p : Pos} (hp : plX a = true) (hb : ("range" : Str) ∈ Γ.blts) (hg : giB (sc.names.lookup ("range" : Str)) = true) (h : VE Γ k N sc a ea) : VI Γ k N sc tg (.Call (.Name "range" p) [a] [] pos) (.rng1 ea) := ⟨rfl, fun X W g => by
  obtain ⟨ta, pa, aa⟩ := h.run X W g
  have hst : starEach [a] X.env = (false, eval a X.env) :: starEach [] X.env := starEach_pl hp
  refine ⟨_, pi_range1 (g.gl hg) (g.blt _ hb) (pa_cons pa pa_nil hst) hst, fun σ H env μ H0 m R rm en h => ?_⟩
  simp only [evI] at h
  refine aa.bnd rm en h fun d μ1 v H1 H01 m1 rm1 s1 r1 en1 h1 => ?_
  split at h1
  · rename_i j e
    unfold rngM0 at h1
    split at h1
    · rename_i hj
      exact ⟨j, by rw [toI_int e r1], hj.1, hj.2, h1 _ _ _ _ rm1 s1 goes_rng⟩
    · exact h1.elim
  · exact h1.elim⟩
theorem vi_rng2 {tg a b : Expr} {ea eb : E} {p : Pos} (hp : plX a = true) (hp2 : plX b = true) (hb : ("range" : Str) ∈ Γ.blts) (hg : giB (sc.names.lookup ("range" : Str)) = true) (ha : VE Γ k N sc a ea) (hb' : VE Γ k N sc b eb) : VI Γ k N sc tg (.Call (.Name "range" p) [a, b] [] pos) (.rng2 ea eb) := ⟨rfl, fun X W g => by
  obtain ⟨ta, pa, aa⟩ := ha.run X W g
  obtain ⟨tb, pb, ab⟩ := hb'.run X W g
  have hst2 : starEach [b] X.env = (false, eval b X.env) :: starEach [] X.env := starEach_pl hp2
  have hst : starEach [a, b] X.env = [(false, eval a X.env), (false, eval b X.env)] := by rw [starEach_pl hp, hst2]; rfl
  refine ⟨_, pi_range2 (g.gl hg) (g.blt _ hb) (pa_cons pa (pa_cons pb pa_nil hst2) (starEach_pl hp)) hst hst2, fun σ H env μ H0 m R rm en h => ?_⟩
  simp only [evI] at h
  refine aa.bnd rm en h fun d μ1 v H1 H01 m1 rm1 s1 r1 en1 h1 => ?_
  refine ab.bnd rm1 en1 h1 fun e μ2 w H2 H02 m2 rm2 s2 r2 en2 h2 => ?_
  split at h2
  · rename_i i j e1 e2
    unfold rngM at h2
    split at h2
    · rename_i hj
      exact ⟨i, j, by rw [toI_int e1 r1, toI_int e2 r2], ⟨hj.1.1, hj.1.2, hj.2.1, hj.2.2⟩, h2 _ _ _ _ rm2 (s1.trans s2) goes_rng⟩
    · exact h2.elim
  · exact h2.elim⟩
theorem vi_enm {elts : List Expr} {kk : Nat} {tpos p : Pos} {a : Expr} {ea : E} (hp : plX a = true) (hb : ("enumerate" : Str) ∈ Γ.blts) (hg : giB (sc.names.lookup ("enumerate" : Str)) = true) (h : VE Γ k N sc a ea) : VI Γ k N sc (.Tuple elts kk tpos) (.Call (.Name "enumerate" p) [a] [] pos) (.enm ea) := ⟨rfl, fun X W g => by
  obtain ⟨ta, pa, aa⟩ := h.run X W g
  have hst : starEach [a] X.env = (false, eval a X.env) :: starEach [] X.env := starEach_pl hp
  refine ⟨_, pi_enum (g.gl hg) (g.blt _ hb) (pa_cons pa pa_nil hst) hst, fun σ H env μ H0 m R rm en h => ?_⟩
  simp only [evI] at h
  refine aa.bnd rm en h fun d μ1 v H1 H01 m1 rm1 s1 r1 en1 h1 => ?_
  split at h1
  · rename_i ds e1
    obtain ⟨a, rfl, G⟩ := goes_enum rm1 r1 e1
    obtain ⟨_, vs, e2, q, _⟩ := rm1.lst r1 e1
    cases e2
    exact ⟨a, vs, rfl, q, h1 _ _ _ _ rm1 s1 G⟩
  · exact h1.elim⟩
theorem vi_zip {elts : List Expr} {kk : Nat} {tpos p : Pos} {a b : Expr} {ea eb : E} (hp : plX a = true) (hp2 : plX b = true) (hb : ("zip" : Str) ∈ Γ.blts) (hg : giB (sc.names.lookup ("zip" : Str)) = true) (ha : VE Γ k N sc a ea) (hb' : VE Γ k N sc b eb) : VI Γ k N sc (.Tuple elts kk tpos) (.Call (.Name "zip" p) [a, b] [] pos) (.zip ea eb) := ⟨rfl, fun X W g => by
  obtain ⟨ta, pa, aa⟩ := ha.run X W g
  obtain ⟨tb, pb, ab⟩ := hb'.run X W g
  refine ⟨_, RZ.pi_zipA (g.gl hg) (g.blt _ hb) (pa_cons pa (pa_cons pb pa_nil (starEach_pl hp2)) (starEach_pl hp)) (starEach_pl hp) (starEach_any (by simp [hp2])), fun σ H env μ H0 m R rm en h => ?_⟩
  simp only [evI] at h
  refine aa.bnd rm en h fun d μ1 v H1 H01 m1 rm1 s1 r1 en1 h1 => ?_
  refine ab.bnd rm1 en1 h1 fun e μ2 w H2 H02 m2 rm2 s2 r2 en2 h2 => ?_
  split at h2
  · rename_i ds es e1 e2
    have r1' := r1.step s2
    obtain ⟨a, b, rfl, rfl, G⟩ := goes_zip rm2 r1' r2 e1 e2
    obtain ⟨_, vs, e3, q1, _⟩ := rm2.lst r1' e1
    cases e3
    obtain ⟨_, ws, e4, q2, _⟩ := rm2.lst r2 e2
    cases e4
    exact ⟨a, b, vs, ws, rfl, .inl ⟨q1, q2, h2 _ _ _ _ rm2 (s1.trans s2) G⟩⟩
  · split at h2
    · rename_i ds es e1 e2
      have r1' := r1.step s2
      obtain ⟨a, b, rfl, rfl, G⟩ := goes_zipT rm2 r1' r2 e1 e2
      obtain ⟨_, vs, e3, q1, _⟩ := rm2.tup r1' e1
      cases e3
      obtain ⟨_, ws, e4, q2, _⟩ := rm2.tup r2 e2
      cases e4
      exact ⟨a, b, vs, ws, rfl, .inr ⟨.of q1, .of q2, h2 _ _ _ _ rm2 (s1.trans s2) G⟩⟩
    · exact h2.elim⟩
theorem vi_rev {tg a : Expr} {ea : E} {p : Pos} (hp : plX a = true) (hb : ("reversed" : Str) ∈ Γ.blts) (hg : giB (sc.names.lookup ("reversed" : Str)) = true) (h : VE Γ k N sc a ea) : VI Γ k N sc tg (.Call (.Name "reversed" p) [a] [] pos) (.rev ea) := ⟨rfl, fun X W g => by
  obtain ⟨ta, pa, aa⟩ := h.run X W g
  have hst : starEach [a] X.env = (false, eval a X.env) :: starEach [] X.env := starEach_pl hp
  refine ⟨_, pi_reversed (g.gl hg) (g.blt _ hb) (pa_cons pa pa_nil hst) hst, fun σ H env μ H0 m R rm en h => ?_⟩
  simp only [evI] at h
  refine aa.bnd rm en h fun d μ1 v H1 H01 m1 rm1 s1 r1 en1 h1 => ?_
  split at h1
  · rename_i ds e1
    obtain ⟨a, rfl, G⟩ := goes_rev rm1 r1 e1
    obtain ⟨_, vs, e2, q, qr⟩ := rm1.lst r1 e1
    cases e2
    refine ⟨a, vs, rfl, q, ?_⟩
    rw [← reps_len qr]
    exact h1 _ _ _ _ rm1 s1 G
  · exact h1.elim⟩
end MI
/-! MI6: comprehensions. -/
namespace MI
open PySem PySem.Spec PyProof.Rows L2
variable {Γ : Gam} {k : Nat} {N : List Str} {sc : Sco} {pos : Pos}

theorem takesN0 {X : Cx} : L2N.Takes X (fun _ _ _ _ => False) := fun _ _ ⟨_, _, _, _, _, _, _, _, _, _, _, _, _, _, _, _, w⟩ => w.elim
/-- the names of a comprehension's block -/
def blkSc (sc : Sco) (scope : Scope) : Sco := { relS scope sc.toScope with cf := fun x => scope.names.lookup x == some .cell, top := false }
theorem Gd.blk {X : Cx} {W : WX} (g : Gd Γ k N sc X W) {scope : Scope} (hk : scope.kind = .function) (s : Shared) (H : Hp) (C : Addr) (cl : List (Str × Addr)) (fp : List Addr) :
    Gd Γ k N (blkSc sc scope) (X.blk s H scope (compEnvC scope cl C X.env) fp) (fun _ _ _ _ => False) where
  hN := g.hN
  nd := g.nd
  hsc := by
    show relabel scope X.env = relS scope sc.toScope
    rw [← g.hsc]
    rfl
  kind := hk
  calm := g.calm
  room := g.room
  tk := TakesB.zero
  po := PassesOwn.never
  fn := fun x h => h
  call := fun f nm h => ⟨(g.call f nm h).ok⟩
  calls := fun f nm h => ⟨(g.calls f nm h).ok⟩
  blt := g.blt
  glo := g.glo
  lev := g.lev
  cls := g.cls
  sub := g.sub
  xf := g.xf
  stk := fun z => nomatch z
  pa := fun z => nomatch z
structure VC (Γ : Gam) (k : Nat) (N : List Str) (sc : Sco) (xs : List Expr) (es : Es) : Prop where
  run : ∀ X W, Gd Γ k N sc X W → ∃ t, PTs X xs t ∧ AnsG eqR X W t (evC Γ.F es)
theorem vc_nil : VC Γ k N sc [] .nil := ⟨fun X W g => ⟨_, pts_nil, fun σ H env μ H0 m Q rm en h => by
  simp only [evC] at h
  exact h true H H0 m rm Step.refl rfl⟩⟩
theorem vc_one {x : Expr} {e : E} (h : VT Γ k N sc x e) : VC Γ k N sc [x] (.cons e .nil) := ⟨fun X W g => by
  obtain ⟨t, h1, h2⟩ := h.run X W g
  refine ⟨t, pts_one h1, fun σ H env μ H0 m Q rm en hs => h2 σ H env μ H0 m Q rm en ?_⟩
  simpa only [evC] using hs⟩
theorem EnvOk.wipe {K : PySem.W.Frag} {H0 : Hp} {m : List Addr} {env : Envv} {σ : L2.St} (en : EnvOk K H0 m env σ) : ∀ (vs : List Nat), EnvOk K H0 m (wipeD env vs) (L2.wipe σ vs)
  | [] => en
  | v :: vs => by
    have ih := EnvOk.wipe en vs
    refine ⟨by simp [wipeD, L2.wipe, ih.len], fun i d e => ?_⟩
    by_cases hi : v = i
    · subst hi
      simp only [wipeD] at e
      by_cases hl : v < (wipeD env vs).length
      · rw [List.getElem?_set_self hl] at e; cases e
      · rw [List.getElem?_eq_none (by simpa using hl)] at e; cases e
    · simp only [wipeD, L2.wipe] at e ⊢
      rw [List.getElem?_set_ne hi] at e ⊢
      exact ih.get i d e
theorem noEx_sat {α : Type} {r : R α} {P : α → Mem → Prop} {E E' : Exn → Mem → Prop} (h : Sat (noEx r) P E) : Sat r P E' := by
  cases r with
  | ok a μ => exact h
  | ex x μ => exact h.elim
  | no => exact h.elim
/-- a list that was made on the way becomes the interpreter's -/
theorem adopt {K : PySem.W.Frag} {Hb H0b H H0 : Hp} {mb m : List Addr} {μ : Mem} {fz : Bool} {ds : List D} {vs : List V} {D0 : Addr} {Q : VK} {E : Exn → Mem → Prop} (rm : RelM K H H0 m μ) (hD : H D0 = some (.lst vs)) (hm : D0 ∉ m) (h0 : H0 D0 = none) (hb : Hb D0 = none)
    (s : Step Hb H0b mb H H0 m) (r : reps K H0 m ds vs) (h : Sat (mkL fz ds μ) (PostE K Q Hb H0b mb) E) : Q (.ref D0) H := by
  unfold mkL at h
  split at h
  · cases fz with
    | true =>
      simp only at h
      split at h
      · rename_i ts e
        have h : PostE K Q Hb H0b mb (.t (.lst ts)) μ := h
        have e := toTs_map e
        have su : Same H0 (upd H0 D0 (.lst vs)) := Same.upd h0
        refine h (.ref D0) H (upd H0 D0 (.lst vs)) m ⟨fun b x e => ?_, rm.len, rm.nd, rm.ne, fun c a cl h1 h2 => ?_⟩ ⟨s.same.trans su, s.pre, s.fresh, s.frame, fun a ha => ?_⟩ ?_
        · by_cases q : b = D0
          · subst q; rw [upd_same] at e; cases e; exact hD
          · rw [upd_ne q] at e; exact rm.same b x e
        · have hp : a ≠ D0 := fun e => hm (by rw [← e]; exact List.mem_of_getElem? h1)
          exact (rm.cell c a cl h1 h2).mono su (fun _ _ z => z) (fun _ z => z) (fun z => by rw [upd_ne hp]; exact z)
        · by_cases q : a = D0
          · subst q; exact .inr (.inr hb)
          · rw [upd_ne q] at ha; exact s.frz a ha
        · simp only [rep, repT]
          refine ⟨D0, vs, rfl, upd_same, ?_⟩
          rw [repT_ts (m := m), ← e]
          exact r.mono su fun _ _ z => z
      · exact h.elim
    | false =>
      have h : PostE K Q Hb H0b mb (.ref μ.length) (μ ++ [.lst ds]) := h
      have at_ : ∀ (c : Nat) (a : Addr), m[c]? = some a → (m ++ [D0])[c]? = some a := fun c a z => by
        rw [List.getElem?_append_left (List.getElem?_eq_some_iff.mp z).1]; exact z
      refine h (.ref D0) H H0 (m ++ [D0]) ⟨rm.same, by simp [rm.len], ?_, fun a ha => ?_, fun c a cl h1 h2 => ?_⟩ ⟨s.same, ?_, fun a ha => ?_, s.frame, s.frz⟩ ?_
      · rw [List.nodup_append]
        exact ⟨rm.nd, by simp, fun a ha b hb => by
          have e : b = D0 := by simpa using hb
          rintro rfl
          exact hm (by rw [← e]; exact ha)⟩
      · rcases List.mem_append.mp ha with ha | ha
        · exact rm.ne a ha
        · have e : a = D0 := by simpa using ha
          subst e; rw [hD]; exact fun z => by cases z
      · by_cases hl : c < m.length
        · rw [List.getElem?_append_left hl] at h1
          rw [List.getElem?_append_left (by rw [← rm.len]; exact hl)] at h2
          exact (rm.cell c a cl h1 h2).mono (Same.refl _) at_ (fun _ z => z) (fun z => z)
        · rw [List.getElem?_append_right (by omega)] at h1
          rw [List.getElem?_append_right (by rw [← rm.len]; omega)] at h2
          have e : c - m.length = 0 := by
            by_cases z : c - m.length = 0
            · exact z
            · rw [List.getElem?_eq_none (by simp; omega)] at h1; cases h1
          rw [e] at h1
          rw [← rm.len, e] at h2
          simp only [List.getElem?_cons_zero, Option.some.injEq] at h1 h2
          subst h1; subst h2
          exact ⟨h0, vs, hD, r.mono (Same.refl _) at_⟩
      · obtain ⟨n, e⟩ := s.pre
        exact ⟨n ++ [D0], by rw [e, List.append_assoc]⟩
      · rcases List.mem_append.mp ha with ha | ha
        · exact s.fresh a ha
        · have e : a = D0 := by simpa using ha
          subst e; exact .inr hb
      · simp only [rep]
        exact ⟨D0, by rw [← rm.len]; simp, rfl⟩
  · exact h.elim
/-- a thing that was made on the way becomes the interpreter's -/
theorem adoptC {K : PySem.W.Frag} {Hb H0b H H0 : Hp} {mb m : List Addr} {μ : Mem} {o : HO} {cl : Cell} {D0 : Addr} {Q : VK} (rm : RelM K H H0 m μ) (hD : H D0 = some o) (hm : D0 ∉ m) (hb : Hb D0 = none)
    (s : Step Hb H0b mb H H0 m) (hc : CellOk K H H0 (m ++ [D0]) D0 cl) (h : PostE K Q Hb H0b mb (.ref μ.length) (μ ++ [cl])) : Q (.ref D0) H := by
  have at_ : ∀ (c : Nat) (a : Addr), m[c]? = some a → (m ++ [D0])[c]? = some a := fun c a z => by
    rw [List.getElem?_append_left (List.getElem?_eq_some_iff.mp z).1]; exact z
  refine h (.ref D0) H H0 (m ++ [D0]) ⟨rm.same, by simp [rm.len], ?_, fun a ha => ?_, fun c a cl' h1 h2 => ?_⟩ ⟨s.same, ?_, fun a ha => ?_, s.frame, s.frz⟩ ?_
  · rw [List.nodup_append]
    exact ⟨rm.nd, by simp, fun a ha b hb => by
      have e : b = D0 := by simpa using hb
      rintro rfl
      exact hm (by rw [← e]; exact ha)⟩
  · rcases List.mem_append.mp ha with ha | ha
    · exact rm.ne a ha
    · have e : a = D0 := by simpa using ha
      subst e; rw [hD]; exact fun z => by cases z
  · by_cases hl : c < m.length
    · rw [List.getElem?_append_left hl] at h1
      rw [List.getElem?_append_left (by rw [← rm.len]; exact hl)] at h2
      exact (rm.cell c a cl' h1 h2).mono (Same.refl _) at_ (fun _ z => z) (fun z => z)
    · rw [List.getElem?_append_right (by omega)] at h1
      rw [List.getElem?_append_right (by rw [← rm.len]; omega)] at h2
      have e : c - m.length = 0 := by
        by_cases z : c - m.length = 0
        · exact z
        · rw [List.getElem?_eq_none (by simp; omega)] at h1; cases h1
      rw [e] at h1
      rw [← rm.len, e] at h2
      simp only [List.getElem?_cons_zero, Option.some.injEq] at h1 h2
      subst h1; subst h2
      exact hc
  · obtain ⟨n, e⟩ := s.pre
    exact ⟨n ++ [D0], by rw [e, List.append_assoc]⟩
  · rcases List.mem_append.mp ha with ha | ha
    · exact s.fresh a ha
    · have e : a = D0 := by simpa using ha
      subst e; exact .inr hb
  · simp only [rep]
    exact ⟨D0, by rw [← rm.len]; simp, rfl⟩
/-- what the interpreter does not track is written -/
theorem RelM.updU {K : PySem.W.Frag} {H H0 : Hp} {m : List Addr} {μ : Mem} (rm : RelM K H H0 m μ) {o : HO} {p : Addr} (hm : p ∉ m) (h0 : H0 p = none) : RelM K (L2.upd H p o) H0 m μ := by
  refine ⟨fun b x e => ?_, rm.len, rm.nd, fun a ha => ?_, fun c a cl h1 h2 => ?_⟩
  · have q : b ≠ p := fun q => by rw [q, h0] at e; cases e
    rw [upd_ne q]
    exact rm.same b x e
  · have q : a ≠ p := fun q => hm (by rw [← q]; exact ha)
    rw [upd_ne q]
    exact rm.ne a ha
  · have q : a ≠ p := fun q => hm (by rw [← q]; exact List.mem_of_getElem? h1)
    exact (rm.cell c a cl h1 h2).mono (Same.refl _) (fun _ _ z => z) (fun o' z => by rw [upd_ne q]; exact z) (fun z => z)
theorem Step.updU {H H0 H' H0' : Hp} {m m' : List Addr} (s : Step H H0 m H' H0' m') {o : HO} {p : Addr} (h : H p = none) : Step H H0 m (L2.upd H' p o) H0' m' :=
  ⟨s.same, s.pre, s.fresh, fun b x e hb => by
    have q : b ≠ p := fun q => by rw [q, h] at e; cases e
    rw [upd_ne q]
    exact s.frame b x e hb, s.frz⟩
theorem ve_dd1 {a b : Expr} {ea eb : E} (ha : VE Γ k N sc a ea) (hb : VE Γ k N sc b eb) : VE Γ k N sc (.Dict [some a] [b] pos) (.dd1 ea eb) := ⟨fun X W g => by
  obtain ⟨ta, pa, aa⟩ := ha.run X W g
  obtain ⟨tb, pb, ab⟩ := hb.run X W g
  refine ⟨_, pe_disp (pps_cons pa pb pps_nil) rfl rfl (by simp) (by simp), fun σ H env μ H0 m Q rm en h p hp => ?_⟩
  simp only [evE] at h
  refine aa.bnd (rm.newU hp) en (h.mono (fun _ _ z => z) fun x μ z => z.later (Step.newU hp)) fun d1 μ1 v1 H1 H01 m1 rm1 s1 r1 en1 h1 => ?_
  refine ab.bnd rm1 en1 h1 fun d2 μ2 v2 H2 H02 m2 rm2 s2 r2 en2 h2 => ?_
  split at h2
  · rename_i kk e
    have h2 : PostE X.K Q H H0 m (.ref μ2.length) (μ2 ++ [.dct [(kk, d2)]]) := h2
    have e1 := keyOf_ok e (r1.step s2)
    have st := s1.trans s2
    have hpm : p ∉ m := rm.notin hp
    have hp2 : p ∉ m2 := fun z => by
      rcases st.fresh p z with z | z
      · exact hpm z
      · rw [upd_same] at z; cases z
    have h02 : H02 p = none := by
      cases q : H02 p with
      | none => rfl
      | some o =>
        rcases st.frz p (by rw [q]; simp) with z | z | z
        · exact absurd (rm.same.free hp) z
        · exact absurd z hpm
        · rw [upd_same] at z; cases z
    refine ⟨st.frame p _ upd_same hpm, [(kk, v2)], by rw [e1]; rfl, by simp, ?_⟩
    refine adoptC (cl := .dct [(kk, d2)]) (rm2.updU hp2 h02) upd_same hp2 hp (((Step.newU hp).trans st).updU hp) ⟨h02, _, upd_same, ?_⟩ h2
    show repK X.K H02 (m2 ++ [p]) [(kk, d2)] [(kk, v2)]
    exact ⟨v2, [], rfl, r2.mono (Same.refl _) (fun c a z => by
      rw [List.getElem?_append_left (List.getElem?_eq_some_iff.mp z).1]; exact z), rfl⟩
  · exact h2.elim⟩
abbrev BI := Shared × Hp × Addr × List (Str × Addr) × List Addr
abbrev bX (X : Cx) (scope : Scope) (b : BI) : Cx := X.blk b.1 b.2.1 scope (compEnvC scope b.2.2.2.1 b.2.2.1 X.env) b.2.2.2.2
/-- one reading for all blocks -/
theorem uniE {X : Cx} {W : WX} {scope : Scope} {x : Expr} {e : E} (g : Gd Γ k N sc X W) (hk : scope.kind = .function) (h : VE Γ k N (blkSc sc scope) x e) :
    ∃ t : TE, (∀ b : BI, PE (bX X scope b) x t) ∧ Ans X (fun _ _ _ _ => False) t (evE Γ.F e) := by
  have hh : ∀ b : BI, ∃ t : TE, PE (bX X scope b) x t ∧ Ans X (fun _ _ _ _ => False) t (evE Γ.F e) := fun b => h.run _ _ (g.blk hk b.1 b.2.1 b.2.2.1 b.2.2.2.1 b.2.2.2.2)
  refine ⟨fun σ H Q => ∀ b, (hh b).choose σ H Q, fun b => ⟨fun pins s σ H Q I q => ((hh b).choose_spec.1).run pins s σ H Q I (q b)⟩, fun σ H env μ H0 m Q rm en hs b => (hh b).choose_spec.2 σ H env μ H0 m Q rm en hs⟩
theorem uniC {X : Cx} {W : WX} {scope : Scope} {xs : List Expr} {es : Es} (g : Gd Γ k N sc X W) (hk : scope.kind = .function) (h : VC Γ k N (blkSc sc scope) xs es) :
    ∃ t : TT, (∀ b : BI, PTs (bX X scope b) xs t) ∧ AnsG eqR X (fun _ _ _ _ => False) t (evC Γ.F es) := by
  have hh : ∀ b : BI, ∃ t : TT, PTs (bX X scope b) xs t ∧ AnsG eqR X (fun _ _ _ _ => False) t (evC Γ.F es) := fun b => h.run _ _ (g.blk hk b.1 b.2.1 b.2.2.1 b.2.2.2.1 b.2.2.2.2)
  refine ⟨fun σ H Q => ∀ b, (hh b).choose σ H Q, fun b => ⟨fun pins s σ H Q I q => ((hh b).choose_spec.1).run pins s σ H Q I (q b)⟩, fun σ H env μ H0 m Q rm en hs b => (hh b).choose_spec.2 σ H env μ H0 m Q rm en hs⟩
theorem uniG {X : Cx} {W : WX} {scope : Scope} {x : Expr} {tg : Tg} (g : Gd Γ k N sc X W) (hk : scope.kind = .function) (h : VG Γ k N (blkSc sc scope) x tg) :
    ∃ t : TG, (∀ b : BI, PG (bX X scope b) x t) ∧ AnsT X t (asgT tg) (fun vs => tgIn vs tg) := by
  have hh : ∀ b : BI, ∃ t : TG, PG (bX X scope b) x t ∧ AnsT X t (asgT tg) (fun vs => tgIn vs tg) := fun b => h.run _ _ (g.blk hk b.1 b.2.1 b.2.2.1 b.2.2.2.1 b.2.2.2.2)
  refine ⟨fun v σ H Q => ∀ b, (hh b).choose v σ H Q, fun b => ⟨fun pins s σ H v u Q I r q => ((hh b).choose_spec.1).run pins s σ H v u Q I r (q b)⟩, fun σ H env env' H0 m d v Q s en r e q b => (hh b).choose_spec.2 σ H env env' H0 m d v Q s en r e q⟩
theorem compLoop_w {tg : Tg} {env : Envv} {c : Envv → M Bool} {el : Envv → M D} {w : Watch} {ds acc : List D} {μ : Mem} {P : List D → Mem → Prop} {E : Exn → Mem → Prop} (h : Sat (compLoop tg env c el w ds acc μ) P E) : WOk μ w := by
  cases ds with
  | nil =>
    simp only [compLoop] at h
    split at h
    · assumption
    · exact h.elim
  | cons d ds =>
    simp only [compLoop] at h
    split at h
    · assumption
    · exact h.elim
/-- the comprehension's reading -/
theorem comp_ans {X : Cx} {W : WX} {wi : TI} {gt : TG} {tt : TT} {te : TE} {fz : Bool} {own : List (Str × Nat)} {tg : Tg} {it : It} {ifs : Es} {e : E} (ai : AnsI X W wi (evI Γ.F it)) (ag : AnsT X gt (asgT tg) (fun vs => tgIn vs tg)) (ac : AnsG eqR X (fun _ _ _ _ => False) tt (evC Γ.F ifs))
    (ae : Ans X (fun _ _ _ _ => False) te (evE Γ.F e)) (hin : tgIn (own.map (·.2)) tg = true) : Ans X W (tLc wi gt tt te (own.map (·.2))) (evE Γ.F (.comp fz own tg it ifs e)) := by
  intro σ H env μ H0 m Q rm en h
  simp only [evE] at h
  show wi σ H _
  refine ai σ H env μ H0 m _ rm en (Sat.mono (Sat.bnd h) (fun p μ1 q => ?_) fun x μ1 q => q)
  intro J H1 H01 m1 rm1 s1 G D0 hD0
  split at q
  · rename_i hz
    have q := Sat.bnd q
    have hD1 : H01 D0 = none := rm1.same.free hD0
    have hDm : D0 ∉ m1 := rm1.notin hD0
    have en1 := (en.step s1).wipe (own.map (·.2))
    refine ⟨fun i n H2 => n = p.1.length - i ∧ i ≤ p.1.length ∧ ∃ H02 m2 μ2 acc vs, RelM X.K H2 H02 m2 μ2 ∧ Step H1 H01 m1 H2 H02 m2 ∧ D0 ∉ m2 ∧ H02 D0 = none ∧ H2 D0 = some (.lst vs) ∧ reps X.K H02 m2 acc vs ∧ acc.length ≤ i ∧
      Sat (compLoop tg (wipeD env (own.map (·.2))) (fun env => evC Γ.F ifs env) (fun env => evE Γ.F e env) p.2 (p.1.drop i) acc μ2) (fun a μ' => Sat (mkL fz a μ') (fun d μ' => ∀ b H' H0' m', RelM X.K H' H0' m' μ' → Step H H0 m H' H0' m' → rep X.K H0' m' d b → Q b H') (PostX X.mg X.K (fun a b => W a b σ) H H0 m)) (PostX X.mg X.K (fun a b => W a b σ) H H0 m),
      ⟨p.1.length, by simp, by simp, H01, m1, μ1, [], [], rm1.newU hD0, Step.newU hD0, hDm, hD1, upd_same, by simp [reps], by simp, by simpa using q⟩, ?_⟩
    rintro i n H2 ⟨rfl, hi, H02, m2, μ2, acc, vs, rm2, s12, hDm2, hD02, hD2, r2, ha, q2⟩
    have hw := compLoop_w q2
    by_cases hl : i < p.1.length
    · refine .inr ⟨G.go i H2 H02 m2 μ2 hl rm2 s12 hw, fun H3 => i + 1 ≤ p.1.length ∧ ∃ H02 m2 μ2 acc vs, RelM X.K H3 H02 m2 μ2 ∧ Step H1 H01 m1 H3 H02 m2 ∧ D0 ∉ m2 ∧ H02 D0 = none ∧ H3 D0 = some (.lst vs) ∧ reps X.K H02 m2 acc vs ∧ acc.length ≤ i + 1 ∧
        Sat (compLoop tg (wipeD env (own.map (·.2))) (fun env => evC Γ.F ifs env) (fun env => evE Γ.F e env) p.2 (p.1.drop (i + 1)) acc μ2) (fun a μ' => Sat (mkL fz a μ') (fun d μ' => ∀ b H' H0' m', RelM X.K H' H0' m' μ' → Step H H0 m H' H0' m' → rep X.K H0' m' d b → Q b H') (PostX X.mg X.K (fun a b => W a b σ) H H0 m)) (PostX X.mg X.K (fun a b => W a b σ) H H0 m),
        fun H3 h3 => ⟨p.1.length - (i + 1), by omega, rfl, h3.1, h3.2⟩, fun x H3 hy => ?_⟩
      obtain ⟨H03, d, hd, rm3, s3, r3⟩ := G.yld i H2 H02 m2 μ2 x H3 hl rm2 s12 hw hy
      have ed : p.1.drop i = d :: p.1.drop (i + 1) := by
        rw [List.drop_eq_getElem_cons hl]
        rw [List.getElem?_eq_getElem hl] at hd
        cases hd
        rfl
      rw [ed] at q2
      simp only [compLoop, if_pos hw] at q2
      split at q2
      · rename_i env' ea
        have en3 := (en1.step s12).step s3
        refine ag _ H3 (wipeD env (own.map (·.2))) env' H03 m2 d x _ rm3.same en3 r3 ea fun σ' en' hwp => ⟨?_, ?_⟩
        · rw [hwp _ hin, wipe_wipe fun i hi => hi]
        · have q2 := Sat.bnd q2
          refine ac σ' H3 env' μ2 H03 m2 _ rm3 en' (Sat.mono (noEx_sat q2) (fun b μ3 q3 => ?_) fun x μ3 q => q)
          intro b' H4 H04 m4 rm4 s4 eb
          cases eb
          have hD4 : H4 D0 = some (.lst vs) := s4.frame D0 _ (s3.frame D0 _ hD2 hDm2) hDm2
          have s24 := s3.trans s4
          cases b with
          | true =>
            rw [if_pos rfl] at q3 ⊢
            have q3 := Sat.bnd q3
            have hDm4 : D0 ∉ m4 := fun hm => by
              rcases s24.fresh D0 hm with z | z
              · exact hDm2 z
              · rw [hD2] at z; cases z
            refine ae σ' H4 env' μ3 H04 m4 _ rm4 (en'.step s4) (Sat.mono (noEx_sat q3) (fun y μ4 q4 => ?_) fun x μ3 q => q)
            intro v H5 H05 m5 rm5 s5 r5
            have hD5 : H5 D0 = some (.lst vs) := s5.frame D0 _ hD4 hDm4
            have s25 := s24.trans s5
            have hDm5 : D0 ∉ m5 := fun hm => by
              rcases s25.fresh D0 hm with z | z
              · exact hDm2 z
              · rw [hD2] at z; cases z
            have r2' := r2.step s25
            refine ⟨vs, hD5, by rw [← reps_len r2']; omega, ?_⟩
            have hD05 : H05 D0 = none := by
              by_cases z : H05 D0 = none
              · exact z
              · rcases s25.frz D0 z with z | z | z
                · exact absurd hD02 z
                · exact absurd z hDm2
                · rw [hD2] at z; cases z
            refine ⟨hl, H05, m5, μ4, acc ++ [y], vs ++ [v], ⟨fun b x e => ?_, rm5.len, rm5.nd, fun a ha => ?_, fun c a cl h1 h2 => ?_⟩, ?_, hDm5, hD05, upd_same, reps_append r2' (by simp only [reps]; exact ⟨v, [], rfl, r5, rfl⟩), by simp; omega, q4⟩
            · have : b ≠ D0 := fun z => by subst z; rw [hD05] at e; cases e
              rw [upd_ne this]; exact rm5.same b x e
            · have : a ≠ D0 := fun z => by subst z; exact hDm5 ha
              rw [upd_ne this]; exact rm5.ne a ha
            · have : a ≠ D0 := fun z => by subst z; exact hDm5 (List.mem_of_getElem? h1)
              exact (rm5.cell c a cl h1 h2).mono (Same.refl _) (fun _ _ z => z) (fun o z => by rw [upd_ne this]; exact z) (fun z => z)
            · have st := s12.trans s25
              refine ⟨st.same, st.pre, st.fresh, fun b o e hn => ?_, st.frz⟩
              rw [upd_ne fun z => by subst z; rw [hD0] at e; cases e]
              exact st.frame b o e hn
          | false =>
            rw [if_neg Bool.false_ne_true] at q3 ⊢
            have hDm4 : D0 ∉ m4 := fun hm => by
              rcases s24.fresh D0 hm with z | z
              · exact hDm2 z
              · rw [hD2] at z; cases z
            have hD04 : H04 D0 = none := by
              by_cases z : H04 D0 = none
              · exact z
              · rcases s24.frz D0 z with z | z | z
                · exact absurd hD02 z
                · exact absurd z hDm2
                · rw [hD2] at z; cases z
            exact ⟨hl, H04, m4, μ3, acc, vs, rm4, s12.trans s24, hDm4, hD04, hD4, r2.step s24, by omega, q3⟩
      · exact q2.elim
    · have hi' : i = p.1.length := by omega
      subst hi'
      refine .inl ⟨G.stop H2 H02 m2 μ2 rm2 s12 hw, ?_⟩
      rw [List.drop_length] at q2
      simp only [compLoop, if_pos hw] at q2
      exact adopt rm2 hD2 hDm2 hD02 (Hb := H) (H0b := H0) (mb := m) ((s1.free hD0).resolve_left fun z => hDm (s1.mem _ z)) (s1.trans s12) r2 q2
  · exact q.elim

/-- own names by their slots, a block's text -/
theorem ve_comp {elt tg iter : Expr} {ifs : List Expr} {scope : Scope} {own : List (Str × Nat)} {fz : Bool} {t : Tg} {it : It} {es : Es} {e : E} (hb : blkC N sc.toScope scope own = true) (hi : VI Γ k N sc tg iter it) (hg : VG Γ k N (blkSc sc scope) tg t) (hc : VC Γ k N (blkSc sc scope) ifs es)
    (he : VE Γ k N (blkSc sc scope) elt e) (hin : tgIn (own.map (·.2)) t = true) : VE Γ k N sc (.ListComp elt [⟨tg, iter, ifs, 0⟩] scope pos) (.comp fz own t it es e) := ⟨fun X W g => by
  have ok : BlkOk X.N X.env.scope scope own := by rw [g.hN, g.hsc]; exact blkOk_by hb
  obtain ⟨wi, pi, ai⟩ := hi.run X W g
  obtain ⟨gt, pg, ag⟩ := uniG g ok.kind hg
  obtain ⟨tt, pt, ac⟩ := uniC g ok.kind hc
  obtain ⟨te, pe, ae⟩ := uniE g ok.kind he
  exact ⟨_, pe_lc g.calm (by rw [g.hN]; exact g.nd) pi ok (fun s H C cl fp => pg (s, H, C, cl, fp)) (fun s H C cl fp => pt (s, H, C, cl, fp)) (fun s H C cl fp => pe (s, H, C, cl, fp)) (folded_pl hi.pl), comp_ans ai ag ac ae hin⟩⟩
end MI
/-! MI7: statements. -/
namespace MI
open PySem PySem.Spec PyProof.Rows L2
variable {Γ : Gam} {k : Nat} {N : List Str} {sc : Sco} {pos : Pos}

def SatO (r : Option (Out × Mem)) (P : Out → Mem → Prop) : Prop := match r with
  | some (o, μ) => P o μ
  | none => False
theorem SatO.mono {r : Option (Out × Mem)} {P P' : Out → Mem → Prop} (h : SatO r P) (hp : ∀ o μ, P o μ → P' o μ) : SatO r P' := by
  cases r with
  | some p => exact hp _ _ h
  | none => exact h
def PostS (X : Cx) (W : WX) (D : Ends) (H H0 : Hp) (m : List Addr) : Out → Mem → Prop := fun o μ' => ∀ H' H0' m', RelM X.K H' H0' m' μ' → Step H H0 m H' H0' m' → match o with
  | .nx env' => ∀ σ', EnvOk X.K H0' m' env' σ' → D.nx σ' H'
  | .bk env' => ∀ σ', EnvOk X.K H0' m' env' σ' → D.bk σ' H'
  | .ct env' => ∀ σ', EnvOk X.K H0' m' env' σ' → D.ct σ' H'
  | .rt d => ∀ v, rep X.K H0' m' d v → D.rt v H'
  | .ex x env' => ∀ σ' cls dd, EnvOk X.K H0' m' env' σ' → ExOk X.mg X.K H0' x cls dd → W cls dd σ' H'
theorem PostS.later {X : Cx} {W : WX} {D : Ends} {H H0 H1 H01 : Hp} {m m1 : List Addr} {o : Out} {μ : Mem} (h : PostS X W D H H0 m o μ) (s : Step H H0 m H1 H01 m1) : PostS X W D H1 H01 m1 o μ :=
  fun H' H0' m' r s' => h H' H0' m' r (s.trans s')
def AnsS (X : Cx) (W : WX) (t : TS) (c : Envv → MO) : Prop := ∀ σ H env μ H0 m (D : Ends), RelM X.K H H0 m μ → EnvOk X.K H0 m env σ → SatO (c env μ) (PostS X W D H H0 m) → t D σ H
structure VS (Γ : Gam) (k : Nat) (N : List Str) (sc : Sco) (x : Stmt) (s : S) : Prop where
  run : ∀ X W, Gd Γ k N sc X W → ∃ t, PS X x t ∧ AnsS X W t (evS Γ.F s)
structure VSs (Γ : Gam) (k : Nat) (N : List Str) (sc : Sco) (xs : List Stmt) (ss : Ss) : Prop where
  run : ∀ X W, Gd Γ k N sc X W → ∃ t, PSs X xs t ∧ AnsS X W t (evSs Γ.F ss)
theorem SatO.lift {α : Type} {x : M α} {env : Envv} {f : α → MO} {μ : Mem} {P : Out → Mem → Prop} (h : SatO (lift x env f μ) P) : Sat (x μ) (fun a μ' => SatO (f a μ') P) (fun e μ' => P (.ex e env) μ') := by
  unfold MI.lift at h
  cases e : x μ with
  | ok a μ' => rw [e] at h; exact h
  | ex y μ' => rw [e] at h; exact h
  | no => rw [e] at h; exact h
theorem AnsG.lift {α β : Type} {ρ : PySem.W.Frag → Hp → List Addr → α → β → Prop} {X : Cx} {W : WX} {t : L2.St → Hp → (β → Hp → Prop) → Prop} {c : Envv → M α} (ha : AnsG ρ X W t c) {σ : L2.St} {H H0 : Hp} {env : Envv} {μ : Mem} {m : List Addr} {f : α → MO} {D : Ends} {R : β → Hp → Prop}
    (rm : RelM X.K H H0 m μ) (en : EnvOk X.K H0 m env σ) (h : SatO (MI.lift (c env) env f μ) (PostS X W D H H0 m))
    (k : ∀ d μ1 v H1 H01 m1, RelM X.K H1 H01 m1 μ1 → Step H H0 m H1 H01 m1 → ρ X.K H01 m1 d v → EnvOk X.K H01 m1 env σ → SatO (f d μ1) (PostS X W D H1 H01 m1) → R v H1) : t σ H R := by
  refine ha σ H env μ H0 m R rm en (Sat.mono (SatO.lift h) (fun d μ1 q => ?_) fun x μ1 q => ?_)
  · intro v H1 H01 m1 rm1 s1 r1
    exact k d μ1 v H1 H01 m1 rm1 s1 r1 (en.step s1) (q.mono fun o μ2 z => z.later s1)
  · intro cls dd H' H0' m' rm' s' ex
    exact q H' H0' m' rm' s' σ cls dd (en.step s') ex

/-! ### blocks -/
theorem vss_nil : VSs Γ k N sc [] .nil := ⟨fun X W g => ⟨_, pss_nil, fun σ H env μ H0 m D rm en h => by
  simp only [evSs, outO] at h
  exact h H H0 m rm Step.refl σ en⟩⟩
theorem SatO.seq {x : MO} {f : Envv → MO} {μ : Mem} {P : Out → Mem → Prop} (h : SatO (andThen x f μ) P) : SatO (x μ) (fun o μ' => match o with
    | .nx env => SatO (f env μ') P
    | o => P o μ') := by
  unfold andThen at h
  cases e : x μ with
  | none => rw [e] at h; exact h
  | some p =>
    obtain ⟨o, μ'⟩ := p
    rw [e] at h
    cases o <;> exact h
theorem vss_cons {x : Stmt} {xs : List Stmt} {s : S} {ss : Ss} (h1 : VS Γ k N sc x s) (h2 : VSs Γ k N sc xs ss) : VSs Γ k N sc (x :: xs) (.cons s ss) := ⟨fun X W g => by
  obtain ⟨t1, p1, a1⟩ := h1.run X W g
  obtain ⟨t2, p2, a2⟩ := h2.run X W g
  refine ⟨_, pss_cons p1 p2, fun σ H env μ H0 m D rm en h => ?_⟩
  simp only [evSs] at h
  refine a1 σ H env μ H0 m { D with nx := t2 D } rm en (SatO.mono (SatO.seq h) fun o μ1 q => ?_)
  intro H1 H01 m1 rm1 s1
  cases o with
  | nx env1 => exact fun σ1 en1 => a2 σ1 H1 env1 μ1 H01 m1 D rm1 en1 (q.mono fun o μ z => z.later s1)
  | rt d => exact fun v r => q H1 H01 m1 rm1 s1 v r
  | bk env1 => exact fun σ1 en1 => q H1 H01 m1 rm1 s1 σ1 en1
  | ct env1 => exact fun σ1 en1 => q H1 H01 m1 rm1 s1 σ1 en1
  | ex x env1 => exact fun σ1 cls dd en1 ex => q H1 H01 m1 rm1 s1 σ1 cls dd en1 ex⟩

/-! ### small statements -/
theorem vs_pss : VS Γ k N sc (.Pass pos) .pss := ⟨fun X W g => ⟨_, ps_pass, fun σ H env μ H0 m D rm en h => by
  simp only [evS, outO] at h
  exact h H H0 m rm Step.refl σ en⟩⟩
theorem vs_unk {x : Stmt} : VS Γ k N sc x .unk := ⟨fun X W g => ⟨fun _ _ _ => False, ⟨fun pins s σ H D I z => z.elim⟩, fun σ H env μ H0 m D rm en h => by
  simp only [evS] at h
  exact h.elim⟩⟩
theorem vs_brk : VS Γ k N sc (.Break pos) .brk := ⟨fun X W g => ⟨_, ps_break, fun σ H env μ H0 m D rm en h => by
  simp only [evS, outO] at h
  exact h H H0 m rm Step.refl σ en⟩⟩
theorem vs_cnt : VS Γ k N sc (.Continue pos) .cnt := ⟨fun X W g => ⟨_, ps_continue, fun σ H env μ H0 m D rm en h => by
  simp only [evS, outO] at h
  exact h H H0 m rm Step.refl σ en⟩⟩
theorem vs_retN : VS Γ k N sc (.Return none pos) .retN := ⟨fun X W g => ⟨_, ps_retN, fun σ H env μ H0 m D rm en h => by
  simp only [evS, outO] at h
  exact h H H0 m rm Step.refl .non (rep_non.mpr rfl)⟩⟩
/-- what never runs -/
theorem vs_ret {x : Expr} {e : E} (h : VE Γ k N sc x e) : VS Γ k N sc (.Return (some x) pos) (.ret e) := ⟨fun X W g => by
  obtain ⟨t, p, a⟩ := h.run X W g
  refine ⟨_, ps_ret p, fun σ H env μ H0 m D rm en h => ?_⟩
  simp only [evS] at h
  refine a.lift rm en h fun d μ1 v H1 H01 m1 rm1 s1 r1 en1 h1 => ?_
  exact h1 H1 H01 m1 rm1 Step.refl v r1⟩
theorem vs_xpr {x : Expr} {e : E} (hp : plX x = true) (hl : notLc x = true) (h : VE Γ k N sc x e) : VS Γ k N sc (.Expr x pos) (.xpr e) := ⟨fun X W g => by
  obtain ⟨t, p, a⟩ := h.run X W g
  refine ⟨_, ps_expr p (swaps_pl hp hl), fun σ H env μ H0 m D rm en h => ?_⟩
  simp only [evS] at h
  refine a.lift rm en h fun d μ1 v H1 H01 m1 rm1 s1 r1 en1 h1 => ?_
  exact h1 H1 H01 m1 rm1 Step.refl σ en1⟩
theorem vs_if {c : Expr} {a b : List Stmt} {ec : E} {sa sb : Ss} (hc : VT Γ k N sc c ec) (ha : VSs Γ k N sc a sa) (hb : VSs Γ k N sc b sb) : VS Γ k N sc (.If c a b pos) (.ife ec sa sb) := ⟨fun X W g => by
  obtain ⟨tc, pc, ac⟩ := hc.run X W g
  obtain ⟨ta, pa, aa⟩ := ha.run X W g
  obtain ⟨tb, pb, ab⟩ := hb.run X W g
  refine ⟨_, ps_if pc pa pb, fun σ H env μ H0 m D rm en h => ?_⟩
  simp only [evS] at h
  refine ac.lift rm en h fun d μ1 v H1 H01 m1 rm1 s1 r1 en1 h1 => ?_
  cases r1
  cases d with
  | true =>
    rw [if_pos rfl] at h1 ⊢
    exact aa σ H1 env μ1 H01 m1 D rm1 en1 h1
  | false =>
    rw [if_neg Bool.false_ne_true] at h1 ⊢
    exact ab σ H1 env μ1 H01 m1 D rm1 en1 h1⟩
/-! ### stores -/
theorem vs_asg {t x : Expr} {tg : Tg} {e : E} (hp : plX x = true) (hl : notLc x = true) (ht : notTL x = true) (hg : VG Γ k N sc t tg) (he : VE Γ k N sc x e) : VS Γ k N sc (.Assign [t] x pos) (.asg tg e) := ⟨fun X W g => by
  obtain ⟨te, pe, ae⟩ := he.run X W g
  obtain ⟨tt, pt, at_⟩ := hg.run X W g
  have hs : swappedStores [t] x X.env = pure none := by
    cases x
    case Tuple => simp [notTL] at ht
    case List => simp [notTL] at ht
    all_goals (cases t <;> rfl)
  refine ⟨_, ps_asg pe pt (show swapsWithSole [t] x pos.line X.env = pure false from swaps_pl hp hl) hs (by rw [assignEach_tg hg.tx]; rfl), fun σ H env μ H0 m D rm en h => ?_⟩
  simp only [evS] at h
  refine ae.lift rm en h fun d μ1 v H1 H01 m1 rm1 s1 r1 en1 h1 => ?_
  split at h1
  · rename_i env' e1
    exact at_ σ H1 env env' H01 m1 d v _ rm1.same en1 r1 e1 fun σ' en' _ => h1 H1 H01 m1 rm1 Step.refl σ' en'
  · exact h1.elim⟩
/-- name = e, e of any form but a comprehension -/
theorem vs_set {x : Expr} {i : Nat} {nm : Str} {e : E} {p : Pos} (hp : plX x = true) (hl : notLc x = true) (h1 : N[i]? = some nm) (h2 : locS sc nm = true) (he : VE Γ k N sc x e) : VS Γ k N sc (.Assign [.Name nm p] x pos) (.asg (.nm i) e) := ⟨fun X W g => by
  obtain ⟨te, pe, ae⟩ := he.run X W g
  obtain ⟨l1, l2⟩ := g.loc h2
  refine ⟨_, ps_set (i := i) (by rw [g.hN]; exact g.nd) (by rw [g.hN]; exact h1) l1 pe (swaps_pl hp hl) l2, fun σ H env μ H0 m D rm en h => ?_⟩
  simp only [evS] at h
  refine ae.lift rm en h fun d μ1 v H1 H01 m1 rm1 s1 r1 en1 h1 => ?_
  simp only [asgT] at h1
  exact h1 H1 H01 m1 rm1 Step.refl _ (en1.set r1)⟩
/-- name = [..] -/
theorem vs_setLc {i : Nat} {nm : Str} {p : Pos} {elt tg iter : Expr} {ifs : List Expr} {scope : Scope} {own : List (Str × Nat)} {fz : Bool} {t : Tg} {it : It} {es : Es} {e : E} {lpos : Pos} (h1 : N[i]? = some nm) (h2 : sc.names.lookup nm = some .local) (hln : (p.line == lpos.line) = true)
    (hnot : (scope.names.any fun (n, k) => n == nm && (k == .local || k == .cell)) = false) (hb : blkC N sc.toScope scope own = true) (hi : VI Γ k N sc tg iter it) (hg : VG Γ k N (blkSc sc scope) tg t) (hc : VC Γ k N (blkSc sc scope) ifs es) (he : VE Γ k N (blkSc sc scope) elt e) (hin : tgIn (own.map (·.2)) t = true) :
    VS Γ k N sc (.Assign [.Name nm p] (.ListComp elt [⟨tg, iter, ifs, 0⟩] scope lpos) pos) (.asg (.nm i) (.comp fz own t it es e)) := ⟨fun X W g => by
  have ok : BlkOk X.N X.env.scope scope own := by rw [g.hN, g.hsc]; exact blkOk_by hb
  obtain ⟨wi, pi, ai⟩ := hi.run X W g
  obtain ⟨gt, pg, ag⟩ := uniG g ok.kind hg
  obtain ⟨tt, pt, ac⟩ := uniC g ok.kind hc
  obtain ⟨te, pe, ae⟩ := uniE g ok.kind he
  have hk : X.env.scope.kind = .function := by rw [g.hsc]; exact g.kind
  have hy : X.env.scope.names.lookup nm = some .local := by rw [g.hsc]; exact h2
  refine ⟨_, ps_setLc (i := i) g.calm (by rw [g.hN]; exact g.nd) (by rw [g.hN]; exact h1) hy (sw_true hk hy hln hnot) pi ok (fun s H C cl fp => pg (s, H, C, cl, fp)) (fun s H C cl fp => pt (s, H, C, cl, fp)) (fun s H C cl fp => pe (s, H, C, cl, fp)) (folded_pl hi.pl), fun σ H env μ H0 m D rm en h => ?_⟩
  have cA := comp_ans (fz := fz) ai ag ac ae hin
  rw [evS] at h
  refine cA.lift rm en h fun d μ1 v H1 H01 m1 rm1 s1 r1 en1 h1 => ?_
  simp only [asgT] at h1
  exact h1 H1 H01 m1 rm1 Step.refl _ (en1.set r1)⟩
/-- name = [..], the name captured by the comprehension -/
theorem vs_setLcC {i : Nat} {nm : Str} {p : Pos} {elt : Expr} {gs : List Comprehension} {scope : Scope} {e : E} {lpos : Pos} (h1 : N[i]? = some nm) (h2 : locS sc nm = true) (h3 : sc.names.lookup nm ≠ some .local) (he : VE Γ k N sc (.ListComp elt gs scope lpos) e) :
    VS Γ k N sc (.Assign [.Name nm p] (.ListComp elt gs scope lpos) pos) (.asg (.nm i) e) := ⟨fun X W g => by
  obtain ⟨te, pe, ae⟩ := he.run X W g
  obtain ⟨l1, l2⟩ := g.loc h2
  have hs : swapsWith (.ListComp elt gs scope lpos) (some (.Name nm p)) pos.line X.env = pure false := by
    have hk : (X.env.kindOf nm == some .local) = false := by
      unfold Env.kindOf
      rw [g.hsc]
      exact beq_eq_false_iff_ne.mpr h3
    unfold swapsWith
    simp only [hk, Bool.and_false, Bool.false_and]
  refine ⟨_, ps_set (i := i) (by rw [g.hN]; exact g.nd) (by rw [g.hN]; exact h1) l1 pe hs l2, fun σ H env μ H0 m D rm en h => ?_⟩
  rw [evS] at h
  refine ae.lift rm en h fun d μ1 v H1 H01 m1 rm1 s1 r1 en1 h1 => ?_
  simp only [asgT] at h1
  exact h1 H1 H01 m1 rm1 Step.refl _ (en1.set r1)⟩
theorem set_dict {X : Cx} (hu : X.A.units + 1 < cLine) : PSet X (fun o i v H Q => ∃ a H', o = .ref a ∧ DPut H a i v H' ∧ Q H') := by
  intro pins s σ H o i v ov iv u Q I ro ri rv h
  obtain ⟨a, H', rfl, g, q⟩ := h
  cases ro
  exact d_setItem hu I g ri rv fun s' I' => ⟨H', I', q⟩
theorem PSet.or {X : Cx} {t t' : TSet} (h : PSet X t) (h' : PSet X t') : PSet X (fun o i v H Q => t o i v H Q ∨ t' o i v H Q) := by
  intro pins s σ H o i v ov iv u Q I ro ri rv q
  rcases q with q | q
  · exact h pins s σ H o i v ov iv u Q I ro ri rv q
  · exact h' pins s σ H o i v ov iv u Q I ro ri rv q
theorem setD_ok {K : PySem.W.Frag} {H H0 : Hp} {m : List Addr} {μ μ' : Mem} {x y d : D} {o i v : V} {Q : Hp → Prop} (rm : RelM K H H0 m μ) (rx : rep K H0 m x o) (ry : rep K H0 m y i) (rd : rep K H0 m d v) (h : setD x y d μ = some μ')
    (q : ∀ H', RelM K H' H0 m μ' → Step H H0 m H' H0 m → Q H') : rSetL o i v H Q ∨ ∃ a H', o = .ref a ∧ DPut H a i v H' ∧ Q H' := by
  unfold setD at h
  split at h
  · rename_i c
    simp only [rep] at rx
    obtain ⟨a, h1, rfl⟩ := rx
    split at h
    · rename_i xs h2
      obtain ⟨h0, vs, h3, h4⟩ := rm.ref h1 h2
      split at h
      · rename_i n e1
        split at h
        · rename_i j e2
          cases h
          refine .inl ⟨a, vs, n, j, rfl, toI_int e1 ry, h3, ?_, ?_⟩
          · rw [← reps_len h4]; exact e2
          · exact q _ (rm.setC h1 h0 ⟨h0, _, upd_same, reps_set j h4 rd⟩) (Step.setC h1)
        · cases h
      · cases h
    · rename_i kds h2
      obtain ⟨h0, kvs, h3, h4⟩ := rm.ref h1 h2
      split at h
      · rename_i kk e1
        split at h
        · rename_i hz
          cases h
          rw [keyOf_ok e1 ry]
          refine .inr ⟨a, _, rfl, DPut.k h3 (by rw [← repK_len h4]; exact hz), ?_⟩
          exact q _ (rm.setC h1 h0 ⟨h0, _, upd_same, repK_put h4 rd⟩) (Step.setC h1)
        · cases h
      · cases h
    · rename_i kds h2
      obtain ⟨h0, kvs, h3, h4⟩ := rm.ref h1 h2
      split at h
      · rename_i kk e1
        split at h
        · rename_i hz
          cases h
          obtain ⟨b, rfl, eb⟩ := keyTOf_ok e1 ry
          refine .inr ⟨a, _, rfl, DPut.t h3 (rm.same _ _ eb) (by rw [← repK_len h4]; exact hz), ?_⟩
          exact q _ (rm.setC h1 h0 ⟨h0, _, upd_same, repK_put h4 rd⟩) (Step.setC h1)
        · cases h
      · cases h
    · cases h
  · cases h
theorem vs_setx {o i x : Expr} {eo ei e : E} {p : Pos} (hp : plX x = true) (hl : notLc x = true) (hi' : plX i = true) (ho : VE Γ k N sc o eo) (hi : VE Γ k N sc i ei) (he : VE Γ k N sc x e) : VS Γ k N sc (.Assign [.Subscript o i p] x pos) (.setx eo ei e) := ⟨fun X W g => by
  obtain ⟨te, pe, ae⟩ := he.run X W g
  obtain ⟨to, po, ao⟩ := ho.run X W g
  obtain ⟨ti, pi, ai⟩ := hi.run X W g
  have hpg : PG X (.Subscript o i p) (gSub to ti fun o i v H Q => rSetL o i v H Q ∨ ∃ a H', o = .ref a ∧ DPut H a i v H' ∧ Q H') := pg_sub po pi (PSet.or set_list (set_dict (by have := g.hu; omega))) (fun v => by
    cases i <;> first | rfl | (exact nomatch hi'))
  refine ⟨_, ps_asg pe hpg (by
      have := swaps_pl (t := some (.Subscript o i p)) (l := pos.line) (env := X.env) hp hl
      unfold swapsWithSole
      exact this) (by cases x <;> rfl) rfl, fun σ H env μ H0 m D rm en h => ?_⟩
  simp only [evS] at h
  refine ae.lift rm en h fun d μ1 v H1 H01 m1 rm1 s1 r1 en1 h1 => ?_
  refine ao.lift rm1 en1 h1 fun x μ2 w H2 H02 m2 rm2 s2 r2 en2 h2 => ?_
  refine ai.lift rm2 en2 h2 fun y μ3 u H3 H03 m3 rm3 s3 r3 en3 h3 => ?_
  split at h3
  · rename_i μ' e1
    exact setD_ok rm3 (r2.step s3) r3 (r1.step (s2.trans s3)) e1 fun H' rm' s' => h3 H' H03 m3 rm' s' σ (en3.step s')
  · exact h3.elim⟩

/-! ### loops -/
theorem forLoop_w {tg : Tg} {b : Envv → MO} {w : Watch} {ds : List D} {env : Envv} {μ : Mem} {P : Out → Mem → Prop} (h : SatO (forLoop tg b w ds env μ) P) : WOk μ w := by
  cases ds with
  | nil =>
    simp only [forLoop] at h
    split at h
    · assumption
    · exact h.elim
  | cons d ds =>
    simp only [forLoop] at h
    split at h
    · assumption
    · exact h.elim
theorem vs_for {tg iter : Expr} {body : List Stmt} {t : Tg} {it : It} {ss : Ss} (hi : VI Γ k N sc tg iter it) (hg : VG Γ k N sc tg t) (hb : VSs Γ k N sc body ss) : VS Γ k N sc (.For tg iter body [] pos) (.for t it ss) := ⟨fun X W g => by
  obtain ⟨wi, pi, ai⟩ := hi.run X W g
  obtain ⟨gt, pg, ag⟩ := hg.run X W g
  obtain ⟨tb, pb, ab⟩ := hb.run X W g
  refine ⟨_, ps_for g.po g.calm pi pg pb (folded_pl hi.pl), fun σ H env μ H0 m D rm en h => ?_⟩
  simp only [evS] at h
  refine ai σ H env μ H0 m _ rm en (Sat.mono (SatO.lift h) (fun p μ1 q => ?_) fun x μ1 q cls dd H' H0' m' rm' s' ex => q H' H0' m' rm' s' σ cls dd (en.step s') ex)
  intro J H1 H01 m1 rm1 s1 G
  refine ⟨fun i n σ2 H2 => n = p.1.length - i ∧ i ≤ p.1.length ∧ ∃ H02 m2 μ2 env2, RelM X.K H2 H02 m2 μ2 ∧ Step H1 H01 m1 H2 H02 m2 ∧ EnvOk X.K H02 m2 env2 σ2 ∧ SatO (forLoop t (fun env => evSs Γ.F ss env) p.2 (p.1.drop i) env2 μ2) (PostS X W D H2 H02 m2),
    ⟨p.1.length, by simp, by simp, H01, m1, μ1, env, rm1, Step.refl, en.step s1, by simpa using q.mono fun o μ z => z.later s1⟩, ?_⟩
  rintro i n σ2 H2 ⟨rfl, hi, H02, m2, μ2, env2, rm2, s2, en2, q2⟩
  have hw := forLoop_w q2
  by_cases hl : i < p.1.length
  · refine .inr ⟨G.go i H2 H02 m2 μ2 hl rm2 s2 hw, fun σ3 H3 => i + 1 ≤ p.1.length ∧ ∃ H02 m2 μ2 env2, RelM X.K H3 H02 m2 μ2 ∧ Step H1 H01 m1 H3 H02 m2 ∧ EnvOk X.K H02 m2 env2 σ3 ∧ SatO (forLoop t (fun env => evSs Γ.F ss env) p.2 (p.1.drop (i + 1)) env2 μ2) (PostS X W D H3 H02 m2),
      fun σ3 H3 h3 => ⟨p.1.length - (i + 1), by omega, rfl, h3.1, h3.2⟩, fun x H3 hy => ?_⟩
    obtain ⟨H03, d, hd, rm3, s3, r3⟩ := G.yld i H2 H02 m2 μ2 x H3 hl rm2 s2 hw hy
    have ed : p.1.drop i = d :: p.1.drop (i + 1) := by
      rw [List.drop_eq_getElem_cons hl]
      rw [List.getElem?_eq_getElem hl] at hd
      cases hd
      rfl
    rw [ed] at q2
    simp only [forLoop, if_pos hw] at q2
    split at q2
    · rename_i env' ea
      refine ag σ2 H3 env2 env' H03 m2 d x _ rm3.same (en2.step s3) r3 ea fun σ' en' _ => ?_
      refine ab σ' H3 env' μ2 H03 m2 _ rm3 en' ?_
      cases eb : evSs Γ.F ss env' μ2 with
      | none => rw [eb] at q2; exact q2
      | some r =>
        obtain ⟨o, μ3⟩ := r
        rw [eb] at q2
        intro H4 H04 m4 rm4 s4
        have s34 := s3.trans s4
        cases o with
        | nx env4 => exact fun σ4 en4 => ⟨hl, H04, m4, μ3, env4, rm4, s2.trans s34, en4, SatO.mono q2 fun o μ z => z.later s34⟩
        | ct env4 => exact fun σ4 en4 => ⟨hl, H04, m4, μ3, env4, rm4, s2.trans s34, en4, SatO.mono q2 fun o μ z => z.later s34⟩
        | bk env4 => exact fun σ4 en4 => q2 H4 H04 m4 rm4 s34 σ4 en4
        | rt d4 => exact fun v r => q2 H4 H04 m4 rm4 s34 v r
        | ex x env4 => exact fun σ4 cls dd en4 ex => q2 H4 H04 m4 rm4 s34 σ4 cls dd en4 ex
    · exact q2.elim
  · have hi' : i = p.1.length := by omega
    subst hi'
    refine .inl ⟨G.stop H2 H02 m2 μ2 rm2 s2 hw, ?_⟩
    rw [List.drop_length] at q2
    simp only [forLoop, if_pos hw] at q2
    exact q2 H2 H02 m2 rm2 Step.refl σ2 en2⟩
theorem vs_whl {c : Expr} {body : List Stmt} {ec : E} {ss : Ss} {n0 : Nat} (hc : VT Γ k N sc c ec) (hb : VSs Γ k N sc body ss) : VS Γ k N sc (.While c body [] pos) (.whl n0 ec ss) := ⟨fun X W g => by
  obtain ⟨tc, pc, ac⟩ := hc.run X W g
  obtain ⟨tb, pb, ab⟩ := hb.run X W g
  refine ⟨_, ps_while g.po pc pb, fun σ H env μ H0 m D rm en h => ?_⟩
  simp only [evS] at h
  refine ⟨fun n σ2 H2 => ∃ H02 m2 μ2 env2, RelM X.K H2 H02 m2 μ2 ∧ Step H H0 m H2 H02 m2 ∧ EnvOk X.K H02 m2 env2 σ2 ∧ SatO (whlLoop (fun env => bnd (evE Γ.F ec env) toB) (fun env => evSs Γ.F ss env) n env2 μ2) (PostS X W D H2 H02 m2),
    ⟨n0, H0, m, μ, env, rm, Step.refl, en, h⟩, ?_⟩
  rintro n σ2 H2 ⟨H02, m2, μ2, env2, rm2, s2, en2, q2⟩
  cases n with
  | zero => exact q2.elim
  | succ n =>
    simp only [whlLoop] at q2
    refine ac.lift (D := D) rm2 en2 q2 fun b μ3 b' H3 H03 m3 rm3 s3 r3 en3 q3 => ?_
    cases r3
    cases b with
    | true =>
      rw [if_pos rfl] at q3 ⊢
      refine ⟨fun σ4 H4 => ∃ H02 m2 μ2 env2, RelM X.K H4 H02 m2 μ2 ∧ Step H H0 m H4 H02 m2 ∧ EnvOk X.K H02 m2 env2 σ4 ∧ SatO (whlLoop (fun env => bnd (evE Γ.F ec env) toB) (fun env => evSs Γ.F ss env) n env2 μ2) (PostS X W D H4 H02 m2),
        fun σ4 H4 h4 => ⟨n, Nat.lt_succ_self n, h4⟩, ?_⟩
      refine ab σ2 H3 env2 μ3 H03 m3 _ rm3 en3 ?_
      cases eb : evSs Γ.F ss env2 μ3 with
      | none => simp only [eb] at q3; exact q3
      | some r =>
        obtain ⟨o, μ4⟩ := r
        simp only [eb] at q3
        intro H4 H04 m4 rm4 s4
        have s34 := s3.trans s4
        cases o with
        | nx env4 => exact fun σ4 en4 => ⟨H04, m4, μ4, env4, rm4, s2.trans s34, en4, SatO.mono q3 fun o μ z => z.later s4⟩
        | ct env4 => exact fun σ4 en4 => ⟨H04, m4, μ4, env4, rm4, s2.trans s34, en4, SatO.mono q3 fun o μ z => z.later s4⟩
        | bk env4 => exact fun σ4 en4 => q3 H4 H04 m4 rm4 s4 σ4 en4
        | rt d4 => exact fun v r => q3 H4 H04 m4 rm4 s4 v r
        | ex x env4 => exact fun σ4 cls dd en4 ex => q3 H4 H04 m4 rm4 s4 σ4 cls dd en4 ex
    | false =>
      rw [if_neg Bool.false_ne_true] at q3 ⊢
      exact q3 H3 H03 m3 rm3 Step.refl σ2 en3⟩
end MI
/-! MIT: raise, try, except suites. -/
namespace MI
open PySem PySem.Spec PyProof.Rows L2
variable {Γ : Gam} {k : Nat} {N : List Str} {sc : Sco} {pos : Pos}

/-! ### an exception's fields -/
theorem repF_snoc {K : PySem.W.Frag} {H : Hp} : ∀ {fs : List (Str × T)} {vs : List (Str × V)} {f : Str} {t : T} {v : V}, repF K H fs vs → repT K H t v → repF K H (fs ++ [(f, t)]) (vs ++ [(f, v)])
  | [], _, f, t, v, h, r => by
    subst h
    exact ⟨v, [], rfl, r, rfl⟩
  | (g, u) :: fs, _, f, t, v, h, r => by
    obtain ⟨w, q, rfl, h1, h2⟩ := h
    exact ⟨w, q ++ [(f, v)], rfl, h1, repF_snoc h2 r⟩
theorem repF_zip {K : PySem.W.Frag} {H : Hp} : ∀ {fs : List Str} {ts : List T} {vs : List V}, repTs K H ts vs → repF K H (fs.zip ts).reverse (fs.zip vs).reverse
  | [], _, _, _ => rfl
  | f :: fs, [], vs, h => by
    simp only [repTs] at h
    subst h
    rfl
  | f :: fs, t :: ts, vs, h => by
    simp only [repTs] at h
    obtain ⟨v, r, rfl, h1, h2⟩ := h
    simp only [List.zip_cons_cons, List.reverse_cons]
    exact repF_snoc (repF_zip h2) h1
theorem repF_get {K : PySem.W.Frag} {H : Hp} : ∀ {fs : List (Str × T)} {vs : List (Str × V)} {f : Str} {t : T}, repF K H fs vs → lookF fs f = some t → ∃ v, vs.lookup f = some v ∧ repT K H t v
  | [], _, f, t, _, h => by simp [lookF] at h
  | (g, u) :: fs, _, f, t, h, e => by
    obtain ⟨v, q, rfl, h1, h2⟩ := h
    by_cases hg : g = f
    · subst hg
      have e' : u = t := by simpa [lookF] using e
      subst e'
      exact ⟨v, by simp [List.lookup], h1⟩
    · have e' : lookF fs f = some t := by simpa [lookF, hg] using e
      obtain ⟨v', h3, h4⟩ := repF_get h2 e'
      have hb : (f == g) = false := by simpa using fun z => hg z.symm
      exact ⟨v', by simp [List.lookup, hb, h3], h4⟩
theorem ExOk.mono {mg : Str → Option Value} {K : PySem.W.Frag} {H0 H0' : Hp} {x : Exn} {cls : Value} {dd : Option Addr} (s : Same H0 H0') (h : ExOk mg K H0 x cls dd) : ExOk mg K H0' x cls dd := by
  obtain ⟨C, h1, h2, h3⟩ := h
  refine ⟨C, h1, h2, ?_⟩
  rcases h3 with h3 | ⟨a, fvs, h4, h5, h6⟩
  · exact .inl h3
  · exact .inr ⟨a, fvs, h4, s _ _ h5, repF.mono s h6⟩

/-! ### raise -/
theorem Gd.rsvm {X : Cx} {W : WX} (g : Gd Γ k N sc X W) : Room 2 X.A := g.room.mono g.lev
theorem vs_rse {c : Str} {fs : List Str} {e0 : Expr} {xs : List Expr} {es : Es} {p p2 : Pos} (hc : (⟨c, fs, true⟩ : ClsI) ∈ Γ.cls) (hl : fs.length ≤ 9) (hg : giB (sc.names.lookup c) = true) (hd : (c == ("__debug__" : Str)) = false) (ha : VEs Γ k N sc (e0 :: xs) es) :
    VS Γ k N sc (.Raise (some (.Call (.Name c p) (e0 :: xs) [] p2)) none pos) (.rse c fs es) := ⟨fun X W g => by
  obtain ⟨ta, pa, aa⟩ := ha.run X W g
  obtain ⟨C, mgC, FC, hno, hini⟩ := g.cls _ hc
  rw [if_pos rfl] at hini
  obtain ⟨T, fI, fd, slf, hI, hT, hb, FI⟩ := hini
  have hp := ha.pl
  simp only [List.all_cons, Bool.and_eq_true] at hp
  have ps0 : Passes (L2N.CX X.prog X.w) X (fun _ _ _ => False) := L2N.passes_call g.tk.n (fun _ _ _ _ z => z.elim)
  refine ⟨_, L2N.ps_raise g.calm g.tk.n (pmk_new T hI hT FI g.rsvm hb ps0 (g.gl hg) mgC pa hd (starEach_pl hp.1) (starEach_any hp.2)), fun σ H env μ H0 m D rm en h => ?_⟩
  simp only [evS] at h
  show ta σ H _
  refine aa.lift rm en h fun ds μ1 vs H1 H01 m1 rm1 s1 r1 en1 h1 => ?_
  split at h1
  · rename_i ts et
    split at h1
    · rename_i hz
      have h1 : PostS X W D H1 H01 m1 (.ex ⟨c, (fs.zip ts).reverse⟩ env) μ1 := h1
      have et := toTs_map et
      have hlen : vs.length = fs.length := by rw [← reps_len r1, et, List.length_map, hz]
      refine ⟨by omega, fun a na => ⟨a, vs, by rw [List.append_nil], hlen, T, hno, upd_same, fun dx hn hne => ⟨rfl, dx, (fs.zip vs).reverse, upd_same, ?_, ?_, ?_⟩⟩⟩
      · rw [upd_ne hne, upd_same]
      · rw [upd_ne hne] at hn
        exact hn
      · have hn' : H1 dx = none := by
          rw [upd_ne hne] at hn
          exact hn
        have e : upd (del (upd (upd (upd H1 a (exo a C none)) dx (exd dx (fs.zip vs).reverse)) a (exo a C (some dx))) a) dx (.xd (fs.zip vs).reverse) = upd H1 dx (.xd (fs.zip vs).reverse) := by
          funext b
          by_cases h1 : b = dx
          · subst h1
            rw [upd_same, upd_same]
          · rw [upd_ne h1, upd_ne h1]
            by_cases h2 : b = a
            · subst h2
              rw [del_same, na]
            · rw [del_ne h2, upd_ne h2, upd_ne h1, upd_ne h2]
        rw [e]
        refine h1 _ (upd H01 dx (.xd (fs.zip vs).reverse)) m1 (rm1.newF hn') (Step.newF rm1.same hn') σ (.ref C) (some dx) (en1.step (Step.newF rm1.same hn')) ⟨C, mgC, rfl, .inr ⟨dx, _, rfl, upd_same, ?_⟩⟩
        refine repF.mono (Same.upd (rm1.same.free hn')) (repF_zip ?_)
        rw [repT_ts (m := m1), ← et]
        exact r1
    · exact h1.elim
  · exact h1.elim⟩
theorem vs_rsm {c m : Str} {j : Nat} {p p2 p3 : Pos} (hc : (⟨c, [], false⟩ : ClsI) ∈ Γ.cls) (hg : giB (sc.names.lookup c) = true) (hd : (c == ("__debug__" : Str)) = false) :
    VS Γ k N sc (.Raise (some (.Call (.Name c p) [.Constant (.str m) j p3] [] p2)) none pos) (.rsm c m) := ⟨fun X W g => by
  obtain ⟨C, mgC, FC, hno, hini⟩ := g.cls _ hc
  rw [if_neg (show ¬ (false = true) by decide)] at hini
  obtain ⟨q, kC, tC⟩ := hini
  refine ⟨_, L2N.ps_raise g.calm g.tk.n (L2N.pmk_own PySem.F.excBase_ValueError q mgC kC (raises_own FC.ex tC) (g.gl hg) hd), fun σ H env μ H0 m D rm en h => ?_⟩
  simp only [evS, outO] at h
  exact h H H0 m rm Step.refl σ (.ref C) none en ⟨C, mgC, rfl, .inl ⟨rfl, rfl⟩⟩⟩

/-! ### except suites -/
/-- what is known in the suite: the slot of the exception's name, and the exception -/
def PX (X : Cx) (a : Addr) (cls : Value) (d : Option Addr) (i : Option Nat) (x : Exn) (σ : L2.St) (H0 : Hp) : Prop := (∀ j, i = some j → σ[j]? = some (some (.ref a))) ∧ ExOk X.mg X.K H0 x cls d
theorem PX.step {X : Cx} {a : Addr} {cls : Value} {d : Option Addr} {i : Option Nat} {x : Exn} {σ : L2.St} {H0 H0' : Hp} (s : Same H0 H0') (h : PX X a cls d i x σ H0) : PX X a cls d i x σ H0' := ⟨h.1, h.2.mono s⟩
def AnsP {α β : Type} (ρ : PySem.W.Frag → Hp → List Addr → α → β → Prop) (X : Cx) (a : Addr) (cls : Value) (d : Option Addr) (i : Option Nat) (t : L2.St → Hp → (β → Hp → Prop) → Prop) (c : Exn → Envv → M α) : Prop :=
  ∀ x σ H env μ H0 m Q, RelM X.K H H0 m μ → EnvOk X.K H0 m env σ → PX X a cls d i x σ H0 →
    Sat (c x env μ) (fun u μ' => ∀ b H' H0' m', RelM X.K H' H0' m' μ' → Step H H0 m H' H0' m' → ρ X.K H0' m' u b → Q b H') (fun _ _ => False) → t σ H Q
section
variable {X : Cx} {W : WX} {a : Addr} {oe : Obj} {cls : Value} {dd : Option Addr} {pn : List (Addr × Obj)} {i : Option Nat}
theorem AnsP.bnd {α β γ : Type} {ρ : PySem.W.Frag → Hp → List Addr → α → β → Prop} {t : L2.St → Hp → (β → Hp → Prop) → Prop} {c : Exn → Envv → M α} (ha : AnsP ρ X a cls dd i t c) {x : Exn} {σ : L2.St} {H H0 : Hp} {env : Envv} {μ : Mem} {m : List Addr} {f : α → M γ} {P : γ → Mem → Prop} {R : β → Hp → Prop}
    (rm : RelM X.K H H0 m μ) (en : EnvOk X.K H0 m env σ) (px : PX X a cls dd i x σ H0) (h : Sat (MI.bnd (c x env) f μ) P (fun _ _ => False))
    (k : ∀ u μ1 v H1 H01 m1, RelM X.K H1 H01 m1 μ1 → Step H H0 m H1 H01 m1 → ρ X.K H01 m1 u v → EnvOk X.K H01 m1 env σ → PX X a cls dd i x σ H01 → Sat (f u μ1) P (fun _ _ => False) → R v H1) : t σ H R := by
  refine ha x σ H env μ H0 m R rm en px (Sat.mono (Sat.bnd h) (fun u μ1 q => ?_) fun _ _ q => q)
  intro v H1 H01 m1 rm1 s1 r1
  exact k u μ1 v H1 H01 m1 rm1 s1 r1 (en.step s1) (px.step s1.same) q
/-- an expression of the suite, as a value and as a test -/
structure HEk (X : Cx) (a : Addr) (oe : Obj) (cls : Value) (dd : Option Addr) (pn : List (Addr × Obj)) (i : Option Nat) (x : Expr) (e : HE) : Prop where
  val : ∃ t, PE (X.suite a ((a, oe) :: pn)) x t ∧ AnsP rep X a cls dd i t (fun y => evH y e)
  tst : ∃ t, PT (X.suite a ((a, oe) :: pn)) x t ∧ AnsP eqR X a cls dd i t (fun y env => MI.bnd (evH y e env) toB)
theorem testP {t : TE} {c : Exn → Envv → M D} (h : AnsP rep X a cls dd i t c) : AnsP eqR X a cls dd i (tTest t) (fun y env => MI.bnd (c y env) toB) := fun x σ H env μ H0 m Q rm en px hs => by
  show t σ H _
  refine h.bnd rm en px hs fun d μ1 v H1 H01 m1 rm1 s1 r1 en1 px1 h1 => ?_
  obtain ⟨b, rfl, q⟩ := toB_some h1
  exact ⟨b, rep_bl.mp r1, q b H1 H01 m1 rm1 s1 rfl⟩
theorem he_val {x : Expr} {e : HE} (hv : valX x = true) (h : ∃ t, PE (X.suite a ((a, oe) :: pn)) x t ∧ AnsP rep X a cls dd i t (fun y => evH y e)) : HEk X a oe cls dd pn i x e :=
  ⟨h, let ⟨_, h1, h2⟩ := h; ⟨_, pt_val h1 (isTrue_val hv), testP h2⟩⟩
theorem he_var (g : Gd Γ k N sc X W) {j : Nat} {y : Str} (h1 : N[j]? = some y) (h2 : visB (sc.names.lookup y) = true) (h3 : (y == ("__debug__" : Str)) = false) (h4 : (y == ("__classdict__" : Str)) = false) : HEk X a oe cls dd pn i (.Name y pos) (.var j) :=
  he_val rfl ⟨_, pe_var (X := X.suite a ((a, oe) :: pn)) (i := j) (by rw [← g.hN] at h1; exact h1) (g.vis h2) h3 h4, fun x σ H env μ H0 m Q rm en px h => by
    simp only [evH] at h
    split at h
    · rename_i d e
      obtain ⟨v, e1, r1⟩ := en.get j d e
      exact ⟨v, e1, h v H H0 m rm Step.refl r1⟩
    · exact h.elim⟩
theorem he_cst {c : Const} {t : T} {j : Nat} (hc : cstB c t = true) : HEk X a oe cls dd pn i (.Constant c j pos) (.cst t) := by
  unfold cstB at hc
  refine he_val rfl ?_
  split at hc
  · exact ⟨_, pe_non, fun x σ H env μ H0 m Q rm en px h => h .non H H0 m rm Step.refl (rep_non.mpr rfl)⟩
  · rename_i b1 b2
    obtain rfl : b1 = b2 := by simpa using hc
    exact ⟨_, pe_bl, fun x σ H env μ H0 m Q rm en px h => h (.bl b1) H H0 m rm Step.refl (rep_bl.mpr rfl)⟩
  · rename_i b1 b2
    obtain rfl : b1 = b2 := by simpa using hc
    exact ⟨_, pe_int, fun x σ H env μ H0 m Q rm en px h => h (.int b1) H H0 m rm Step.refl (rep_int.mpr rfl)⟩
  · rename_i b1 b2
    obtain rfl : b1 = b2 := by simpa using hc
    exact ⟨_, pe_str, fun x σ H env μ H0 m Q rm en px h => h (.str b1) H H0 m rm Step.refl (rep_str.mpr rfl)⟩
  · cases hc
/-- e.f -/
theorem he_fld (g : Gd Γ k N sc X W) {n f : Str} {j : Nat} {cs : List Str} {np : Pos} (hz : Zc cls dd oe) (hf : ∃ vs, oe.data = .fields vs) (hi : i = some j) (h1 : N[j]? = some n) (h2 : visB (sc.names.lookup n) = true) (h3 : (n == ("__debug__" : Str)) = false) (h4 : (n == ("__classdict__" : Str)) = false)
    (hcs : ∀ c ∈ cs, ∃ ci ∈ Γ.cls, ci.nm = c ∧ f ∈ ci.fs) : HEk X a oe cls dd pn i (.Attribute (.Name n np) f pos) (.fld f cs) := by
  refine he_val rfl ?_
  by_cases hc : ∃ c ∈ cs, ∃ C, X.mg c = some (.ref C) ∧ cls = .ref C
  · obtain ⟨c, hcm, C, mgC, rfl⟩ := hc
    obtain ⟨ci, hci, rfl, hfm⟩ := hcs c hcm
    obtain ⟨C', mgC', FC, hno, _⟩ := g.cls _ hci
    rw [mgC] at mgC'
    cases mgC'
    refine ⟨_, pe_xf (C := C) ⟨FC.ga, FC.gg, FC.ex, FC.hd⟩ (hno f hfm) hz hf (pe_var (X := X.suite a ((a, oe) :: pn)) (i := j) (by rw [← g.hN] at h1; exact h1) (g.vis h2) h3 h4), fun x σ H env μ H0 m Q rm en px h => ?_⟩
    simp only [evH] at h
    split at h
    · split at h
      · rename_i t ht
        obtain ⟨C2, e1, e2, e3⟩ := px.2
        refine ⟨.ref a, px.1 j hi, rfl, rfl, ?_⟩
        rcases e3 with ⟨e3, _⟩ | ⟨d, fvs, rfl, e5, e6⟩
        · rw [e3] at ht
          simp [lookF] at ht
        · obtain ⟨v, l1, l2⟩ := repF_get e6 ht
          exact ⟨d, fvs, v, rfl, rm.same _ _ e5, l1, h v H H0 m rm Step.refl (by simp only [rep]; exact l2)⟩
      · exact h.elim
    · exact h.elim
  · refine ⟨fun _ _ _ => False, ⟨fun pins s σ H Q I z => z.elim⟩, fun x σ H env μ H0 m Q rm en px h => ?_⟩
    simp only [evH] at h
    split at h
    · rename_i hxc
      obtain ⟨C, e1, e2, _⟩ := px.2
      exact hc ⟨x.cls, hxc, C, e1, e2⟩
    · exact h.elim
/-- isinstance(e, c) -/
theorem he_isi (g : Gd Γ k N sc X W) {n c : Str} {j : Nat} {tab : List (Str × Bool)} {np cp ip : Pos} (hz : Zc cls dd oe) (hf : ∃ vs, oe.data = .fields vs) (hi : i = some j) (h1 : N[j]? = some n) (h2 : visB (sc.names.lookup n) = true) (h3 : (n == ("__debug__" : Str)) = false) (h4 : (n == ("__classdict__" : Str)) = false)
    (hb : ("isinstance" : Str) ∈ Γ.blts) (hg : giB (sc.names.lookup ("isinstance" : Str)) = true) (hg2 : giB (sc.names.lookup c) = true) (hd : (c == ("__debug__" : Str)) = false) (ht : ∀ p ∈ tab, (p.1, c, p.2) ∈ Γ.sub) : HEk X a oe cls dd pn i (.Call (.Name "isinstance" ip) [.Name n np, .Name c cp] [] pos) (.isi c tab) := by
  refine he_val rfl ?_
  by_cases hc : ∃ p ∈ tab, ∃ C, X.mg p.1 = some (.ref C) ∧ cls = .ref C
  · obtain ⟨p, hp, C, mgC, rfl⟩ := hc
    obtain ⟨C', U, mgC', FC, nv, _, _⟩ := g.sub _ _ _ (ht p hp)
    rw [mgC] at mgC'
    cases mgC'
    have hm := g.blt _ hb
    have pv := pe_var (X := X.suite a ((a, oe) :: pn)) (i := j) (pos := np) (by rw [← g.hN] at h1; exact h1) (g.vis h2) h3 h4
    obtain ⟨cv, pc, rc⟩ : ∃ cv : V, PE (X.suite a ((a, oe) :: pn)) (.Name c cp) (fun _ H Q => Q cv H) ∧ ∀ u, RelV cv u → u = U := by
      rcases nv with ⟨hmc, C2, rfl⟩ | ⟨hmn, hbt, hnn, ty, rfl⟩
      · exact ⟨.ref C2, pe_glob (X := X.suite a ((a, oe) :: pn)) (g.gl hg2) hmc rfl hd, fun u r => r⟩
      · exact ⟨.ty ty, pe_bltn (g.gl hg2) hmn hbt rfl hnn hd, fun u r => r⟩
    refine ⟨_, pe_callB (call_isX FC hz hf) (g.gl hg) hm PyProof.Rows.boot_isinstance (pa_cons pv (pa_cons pc pa_nil (starEach_pl rfl)) (starEach_pl rfl)) (by decide) (by decide) (starEach_pl rfl) (starEach_any rfl), fun x σ H env μ H0 m Q rm en px h => ?_⟩
    simp only [evH] at h
    split at h
    · rename_i b hlt
      obtain ⟨C2, e1, e2, e3⟩ := px.2
      cases e2
      have hmem : (x.cls, b) ∈ tab := by
        unfold lookT at hlt
        obtain ⟨q, hq, hqe⟩ := Option.map_eq_some_iff.mp hlt
        have h5 := List.find?_some hq
        have h6 := List.mem_of_find?_eq_some hq
        simp only [decide_eq_true_eq] at h5
        obtain ⟨q1, q2⟩ := q
        simp only at h5 hqe
        subst h5 hqe
        exact h6
      obtain ⟨C3, U3, m3, _, nv3, _, kk⟩ := g.sub _ _ _ (ht _ hmem)
      rw [e1] at m3
      cases m3
      have hV : U3 = U := by
        rcases nv with ⟨n1, _⟩ | ⟨n1, n2, _⟩ <;> rcases nv3 with ⟨n3, _⟩ | ⟨n3, n4, _⟩
        · rw [n1] at n3; exact (Option.some.inj n3).symm
        · rw [n1] at n3; cases n3
        · rw [n1] at n3; cases n3
        · rw [n2] at n4; exact (Option.some.inj n4).symm
      subst hV
      refine ⟨.ref a, px.1 j hi, cv, U3, b, rfl, rc, kk, fun d hd' => ?_, h (.bl b) H H0 m rm Step.refl (rep_bl.mpr rfl)⟩
      subst hd'
      rcases e3 with ⟨_, e3⟩ | ⟨d2, fvs, e4, e5, e6⟩
      · cases e3
      · cases e4
        exact ⟨fvs, rm.same _ _ e5⟩
    · exact h.elim
  · refine ⟨fun _ _ _ => False, ⟨fun pins s σ H Q I z => z.elim⟩, fun x σ H env μ H0 m Q rm en px h => ?_⟩
    simp only [evH] at h
    split at h
    · rename_i b hlt
      obtain ⟨C, e1, e2, _⟩ := px.2
      unfold lookT at hlt
      obtain ⟨q, hq, hqe⟩ := Option.map_eq_some_iff.mp hlt
      have h5 := List.find?_some hq
      have h6 := List.mem_of_find?_eq_some hq
      simp only [decide_eq_true_eq] at h5
      exact hc ⟨q, h6, C, by rw [h5]; exact e1, e2⟩
    · exact h.elim
theorem he_cmp (g : Gd Γ k N sc X W) {x y : Expr} {e f : HE} {op : Cop} (h1 : HEk X a oe cls dd pn i x e) (h2 : HEk X a oe cls dd pn i y f) (hm : plX y = true) : HEk X a oe cls dd pn i (.Compare x [copOf op] [y] pos) (.cmp op e f) := by
  obtain ⟨ta, pa, aa⟩ := h1.val
  obtain ⟨tb, pb, ab⟩ := h2.val
  obtain ⟨r, ho, hr⟩ := opA_cmp (X := X.suite a ((a, oe) :: pn)) (show X.A.units + 64 < cLine from g.hu) op
  have key : AnsP rep X a cls dd i (fun σ H Q => ta σ H fun v H1 => tb σ H1 fun w H2 => r v w H2 Q) (fun y' => evH y' (.cmp op e f)) := fun x' σ H env μ H0 m Q rm en px h => by
    simp only [evH] at h
    refine aa.bnd rm en px h fun d μ1 v H1 H01 m1 rm1 s1 r1 en1 px1 h1 => ?_
    refine ab.bnd rm1 en1 px1 h1 fun e' μ2 w H2 H02 m2 rm2 s2 r2 en2 px2 h2 => ?_
    exact hr d e' v w H2 H02 m2 μ2 Q _ _ rm2 (r1.step s2) r2 h2 fun u μ3 q => PostE.later (Q := Q) q (s1.trans s2)
  exact ⟨⟨_, pe_cmpR ho pa pb (nomarkX hm), key⟩, ⟨_, pt_cmpR ho pa pb (nomarkX hm), testP key⟩⟩
theorem he_not {x : Expr} {e : HE} (h : HEk X a oe cls dd pn i x e) : HEk X a oe cls dd pn i (.UnaryOp .Not x pos) (.not e) := by
  obtain ⟨ta, pa, aa⟩ := h.val
  obtain ⟨tb, pb, ab⟩ := h.tst
  refine ⟨⟨_, pe_not pa, fun y σ H env μ H0 m Q rm en px h => ?_⟩, ⟨_, pt_not pb, fun y σ H env μ H0 m Q rm en px h => ?_⟩⟩
  · simp only [evH] at h
    refine aa.bnd rm en px h fun d μ1 v H1 H01 m1 rm1 s1 r1 en1 px1 h1 => ?_
    obtain ⟨c, rfl, h2⟩ := toB_some (Sat.bnd h1)
    exact ⟨c, rep_bl.mp r1, h2 _ _ _ _ rm1 s1 (rep_bl.mpr rfl)⟩
  · simp only [evH] at h
    rw [bnd_assoc] at h
    simp only [bnd_assoc, bnd_pur, toB_bl] at h
    rw [← bnd_assoc] at h
    refine ab.bnd rm en px h fun d μ1 v H1 H01 m1 rm1 s1 r1 en1 px1 h1 => ?_
    cases r1
    exact h1 _ _ _ _ rm1 s1 rfl
theorem laterE {Q : VK} {H H0 H1 H01 : Hp} {m m1 : List Addr} {K : PySem.W.Frag} {r : R D} (s : Step H H0 m H1 H01 m1) (h : Sat r (PostE K Q H H0 m) (fun _ _ => False)) : Sat r (PostE K Q H1 H01 m1) (fun _ _ => False) := h.mono (fun _ _ q => PostE.later (Q := Q) q s) fun _ _ z => z
/-- a tail of a chain of and, or -/
structure HEw (X : Cx) (a : Addr) (oe : Obj) (cls : Value) (dd : Option Addr) (pn : List (Addr × Obj)) (i : Option Nat) (x : Expr) (e : HE) : Prop where
  val : ∃ t, PE (X.suite a ((a, oe) :: pn)) x t ∧ AnsP rep X a cls dd i t (fun y => evH y e)
  tst : ∃ t, PW (X.suite a ((a, oe) :: pn)) x t ∧ AnsP eqR X a cls dd i t (fun y env => MI.bnd (evH y e env) toB)
theorem HEw.hek {x : Expr} {e : HE} (h : HEw X a oe cls dd pn i x e) : HEk X a oe cls dd pn i x e := ⟨h.val, let ⟨t, h1, h2⟩ := h.tst; ⟨t, h1.pt, h2⟩⟩
theorem hew_and1 {x : Expr} {e : HE} (h : HEk X a oe cls dd pn i x e) : HEw X a oe cls dd pn i (.BoolOp .And [x] pos) e := ⟨let ⟨t, h1, h2⟩ := h.val; ⟨t, pe_one h1, h2⟩, let ⟨t, h1, h2⟩ := h.tst; ⟨t, pw_and1 h1, h2⟩⟩
theorem hew_or1 {x : Expr} {e : HE} (h : HEk X a oe cls dd pn i x e) : HEw X a oe cls dd pn i (.BoolOp .Or [x] pos) e := ⟨let ⟨t, h1, h2⟩ := h.val; ⟨t, pe_one h1, h2⟩, let ⟨t, h1, h2⟩ := h.tst; ⟨t, pw_or1 h1, h2⟩⟩
theorem hew_and {x y : Expr} {rest : List Expr} {e f : HE} (h1 : HEk X a oe cls dd pn i x e) (h2 : HEw X a oe cls dd pn i (.BoolOp .And (y :: rest) pos) f) : HEw X a oe cls dd pn i (.BoolOp .And (x :: y :: rest) pos) (.and e f) := by
  obtain ⟨ta, pa, aa⟩ := h1.val
  obtain ⟨tb, pb, ab⟩ := h2.val
  obtain ⟨qa, wa, ba⟩ := h1.tst
  obtain ⟨qb, wb, bb⟩ := h2.tst
  refine ⟨⟨_, pe_and pa pb, fun y σ H env μ H0 m Q rm en px h => ?_⟩, ⟨_, pw_and wa wb, fun y σ H env μ H0 m Q rm en px h => ?_⟩⟩
  · simp only [evH] at h
    refine aa.bnd rm en px h fun d μ1 v H1 H01 m1 rm1 s1 r1 en1 px1 h1 => ?_
    obtain ⟨c, rfl, h2⟩ := toB_some (Sat.bnd h1)
    refine ⟨c, rep_bl.mp r1, ?_⟩
    cases c with
    | true =>
      rw [if_pos rfl] at h2 ⊢
      exact ab y σ H1 env μ1 H01 m1 Q rm1 en1 px1 (laterE s1 h2)
    | false =>
      rw [if_neg Bool.false_ne_true] at h2 ⊢
      exact h2 _ _ _ _ rm1 s1 (rep_bl.mpr rfl)
  · simp only [evH] at h
    rw [bnd_assoc] at h
    simp only [bnd_assoc, bnd_ite, bnd_pur, toB_bl] at h
    rw [← bnd_assoc] at h
    refine ba.bnd rm en px h fun d μ1 v H1 H01 m1 rm1 s1 r1 en1 px1 h1 => ?_
    cases r1
    cases d with
    | true =>
      rw [if_pos rfl] at h1 ⊢
      exact bb y σ H1 env μ1 H01 m1 Q rm1 en1 px1 (h1.mono (fun x μ2 q b H' H0' m' r s e => q b H' H0' m' r (s1.trans s) e) fun _ _ z => z)
    | false =>
      rw [if_neg Bool.false_ne_true] at h1 ⊢
      exact h1 _ _ _ _ rm1 s1 rfl
theorem hew_or {x y : Expr} {rest : List Expr} {e f : HE} (h1 : HEk X a oe cls dd pn i x e) (h2 : HEw X a oe cls dd pn i (.BoolOp .Or (y :: rest) pos) f) : HEw X a oe cls dd pn i (.BoolOp .Or (x :: y :: rest) pos) (.or e f) := by
  obtain ⟨ta, pa, aa⟩ := h1.val
  obtain ⟨tb, pb, ab⟩ := h2.val
  obtain ⟨qa, wa, ba⟩ := h1.tst
  obtain ⟨qb, wb, bb⟩ := h2.tst
  refine ⟨⟨_, pe_or pa pb, fun y σ H env μ H0 m Q rm en px h => ?_⟩, ⟨_, pw_or wa wb, fun y σ H env μ H0 m Q rm en px h => ?_⟩⟩
  · simp only [evH] at h
    refine aa.bnd rm en px h fun d μ1 v H1 H01 m1 rm1 s1 r1 en1 px1 h1 => ?_
    obtain ⟨c, rfl, h2⟩ := toB_some (Sat.bnd h1)
    refine ⟨c, rep_bl.mp r1, ?_⟩
    cases c with
    | true =>
      rw [if_pos rfl] at h2 ⊢
      exact h2 _ _ _ _ rm1 s1 (rep_bl.mpr rfl)
    | false =>
      rw [if_neg Bool.false_ne_true] at h2 ⊢
      exact ab y σ H1 env μ1 H01 m1 Q rm1 en1 px1 (laterE s1 h2)
  · simp only [evH] at h
    rw [bnd_assoc] at h
    simp only [bnd_assoc, bnd_ite, bnd_pur, toB_bl] at h
    rw [← bnd_assoc] at h
    refine ba.bnd rm en px h fun d μ1 v H1 H01 m1 rm1 s1 r1 en1 px1 h1 => ?_
    cases r1
    cases d with
    | true =>
      rw [if_pos rfl] at h1 ⊢
      exact h1 _ _ _ _ rm1 s1 rfl
    | false =>
      rw [if_neg Bool.false_ne_true] at h1 ⊢
      exact bb y σ H1 env μ1 H01 m1 Q rm1 en1 px1 (h1.mono (fun x μ2 q b H' H0' m' r s e => q b H' H0' m' r (s1.trans s) e) fun _ _ z => z)
theorem he_and {x y : Expr} {e f : HE} (h1 : HEk X a oe cls dd pn i x e) (h2 : HEk X a oe cls dd pn i y f) : HEk X a oe cls dd pn i (.BoolOp .And [x, y] pos) (.and e f) := (hew_and h1 (hew_and1 h2)).hek
theorem he_or {x y : Expr} {e f : HE} (h1 : HEk X a oe cls dd pn i x e) (h2 : HEk X a oe cls dd pn i y f) : HEk X a oe cls dd pn i (.BoolOp .Or [x, y] pos) (.or e f) := (hew_or h1 (hew_or1 h2)).hek
theorem evH_or3 (x : Exn) (e f g : HE) (env : Envv) : evH x (.or3 e f g) env = evH x (.or e (.or f g)) env := by simp only [evH]
theorem he_or3 {x y z : Expr} {e f g : HE} (h1 : HEk X a oe cls dd pn i x e) (h2 : HEk X a oe cls dd pn i y f) (h3 : HEk X a oe cls dd pn i z g) : HEk X a oe cls dd pn i (.BoolOp .Or [x, y, z] pos) (.or3 e f g) := by
  have h := (hew_or h1 (hew_or h2 (hew_or1 (pos := pos) h3))).hek
  have e1 : (fun y => evH y (.or3 e f g)) = fun y => evH y (.or e (.or f g)) := by
    funext y env
    exact evH_or3 y e f g env
  have e2 : (fun (y : Exn) (env : Envv) => MI.bnd (evH y (.or3 e f g) env) toB) = fun y env => MI.bnd (evH y (.or e (.or f g)) env) toB := by
    funext y env
    rw [evH_or3]
  exact ⟨by rw [e1]; exact h.val, by rw [e2]; exact h.tst⟩
structure HEsk (X : Cx) (a : Addr) (oe : Obj) (cls : Value) (dd : Option Addr) (pn : List (Addr × Obj)) (i : Option Nat) (xs : List Expr) (es : HEs) : Prop where
  run : ∃ t, PA (X.suite a ((a, oe) :: pn)) xs t ∧ AnsP reps X a cls dd i t (fun y => evHs y es)
theorem hes_nil : HEsk X a oe cls dd pn i [] .nil := ⟨_, pa_nil, fun x σ H env μ H0 m Q rm en px h => by
  simp only [evHs] at h
  exact h [] H H0 m rm Step.refl (by simp only [reps])⟩
theorem hes_cons {x : Expr} {xs : List Expr} {e : HE} {es : HEs} (hp : plX x = true) (h1 : HEk X a oe cls dd pn i x e) (h2 : HEsk X a oe cls dd pn i xs es) : HEsk X a oe cls dd pn i (x :: xs) (.cons e es) := by
  obtain ⟨ta, pa, aa⟩ := h1.val
  obtain ⟨tr, pr, ar⟩ := h2.run
  refine ⟨_, pa_cons pa pr (starEach_pl hp), fun y σ H env μ H0 m Q rm en px h => ?_⟩
  simp only [evHs] at h
  refine aa.bnd rm en px h fun d μ1 v H1 H01 m1 rm1 s1 r1 en1 px1 h1 => ?_
  refine ar.bnd rm1 en1 px1 h1 fun ds μ2 vs H2 H02 m2 rm2 s2 r2 en2 px2 h2 => ?_
  exact h2 (v :: vs) H2 H02 m2 rm2 (s1.trans s2) (by simp only [reps]; exact ⟨v, vs, rfl, r1.step s2, r2⟩)
theorem he_tup {xs : List Expr} {es : HEs} {j : Nat} (h : HEsk X a oe cls dd pn i xs es) : HEk X a oe cls dd pn i (.Tuple xs j pos) (.tup es) := by
  obtain ⟨t, pa, aa⟩ := h.run
  refine he_val rfl ⟨_, pe_tup pa, fun y σ H env μ H0 m Q rm en px h => ?_⟩
  simp only [evH] at h
  refine aa.bnd rm en px h fun ds μ1 vs H1 H01 m1 rm1 s1 r1 en1 px1 h1 => ?_
  obtain ⟨h2, h3⟩ := mkTup_ok (Q := Q) rm1 r1 h1 fun x μ3 q => PostE.later (Q := Q) q s1
  exact ⟨by rw [← reps_len r1]; exact h2, h3⟩
theorem he_lst {xs : List Expr} {es : HEs} (h : HEsk X a oe cls dd pn i xs es) : HEk X a oe cls dd pn i (.List xs pos) (.lst es) := by
  obtain ⟨t, pa, aa⟩ := h.run
  refine he_val rfl ⟨_, pe_lst pa, fun y σ H env μ H0 m Q rm en px h => ?_⟩
  simp only [evH] at h
  refine aa.bnd rm en px h fun ds μ1 vs H1 H01 m1 rm1 s1 r1 en1 px1 h1 => ?_
  obtain ⟨h2, h3⟩ := mkL_ok (Q := Q) rm1 r1 h1 fun x μ3 q => PostE.later (Q := Q) q s1
  exact ⟨by rw [← reps_len r1]; exact h2, h3⟩

/-! ### the suite's statements -/
def PostH (X : Cx) (D : Ends) (a : Addr) (i : Option Nat) (H H0 : Hp) (m : List Addr) : Out → Mem → Prop := fun o μ' => ∀ H' H0' m', RelM X.K H' H0' m' μ' → Step H H0 m H' H0' m' → match o with
  | .nx env' => ∀ σ', EnvOk X.K H0' m' env' σ' → (∀ j, i = some j → σ'[j]? = some (some (.ref a))) → D.nx σ' H'
  | .rt d => ∀ v, rep X.K H0' m' d v → D.rt v H'
  | _ => True
theorem PostH.later {D : Ends} {H H0 H1 H01 : Hp} {m m1 : List Addr} {o : Out} {μ : Mem} (h : PostH X D a i H H0 m o μ) (s : Step H H0 m H1 H01 m1) : PostH X D a i H1 H01 m1 o μ := fun H' H0' m' r s' => h H' H0' m' r (s.trans s')
def AnsHS (X : Cx) (a : Addr) (cls : Value) (dd : Option Addr) (i : Option Nat) (t : TS) (c : Exn → Envv → MO) : Prop := ∀ x σ H env μ H0 m (D : Ends), RelM X.K H H0 m μ → EnvOk X.K H0 m env σ → PX X a cls dd i x σ H0 → SatO (c x env μ) (PostH X D a i H H0 m) → t D σ H
structure HSk (X : Cx) (a : Addr) (oe : Obj) (cls : Value) (dd : Option Addr) (pn : List (Addr × Obj)) (i : Option Nat) (x : Stmt) (s : HS) : Prop where
  run : ∃ t, PS (X.suite a ((a, oe) :: pn)) x t ∧ AnsHS X a cls dd i t (fun y => evHS y s)
structure HSsk (X : Cx) (a : Addr) (oe : Obj) (cls : Value) (dd : Option Addr) (pn : List (Addr × Obj)) (i : Option Nat) (xs : List Stmt) (ss : HSs) : Prop where
  run : ∃ t, PSs (X.suite a ((a, oe) :: pn)) xs t ∧ AnsHS X a cls dd i t (fun y => evHSs y ss)
theorem SatO.liftH {α : Type} {x : M α} {f : α → MO} {μ : Mem} {P : Out → Mem → Prop} (h : SatO (MI.liftH x f μ) P) : Sat (x μ) (fun a μ' => SatO (f a μ') P) (fun _ _ => False) := by
  unfold MI.liftH at h
  cases e : x μ with
  | ok a μ' => rw [e] at h; exact h
  | ex y μ' => rw [e] at h; exact h
  | no => rw [e] at h; exact h
theorem AnsP.lift {α β : Type} {ρ : PySem.W.Frag → Hp → List Addr → α → β → Prop} {t : L2.St → Hp → (β → Hp → Prop) → Prop} {c : Exn → Envv → M α} (ha : AnsP ρ X a cls dd i t c) {x : Exn} {σ : L2.St} {H H0 : Hp} {env : Envv} {μ : Mem} {m : List Addr} {f : α → MO} {D : Ends} {R : β → Hp → Prop}
    (rm : RelM X.K H H0 m μ) (en : EnvOk X.K H0 m env σ) (px : PX X a cls dd i x σ H0) (h : SatO (MI.liftH (c x env) f μ) (PostH X D a i H H0 m))
    (k : ∀ d μ1 v H1 H01 m1, RelM X.K H1 H01 m1 μ1 → Step H H0 m H1 H01 m1 → ρ X.K H01 m1 d v → EnvOk X.K H01 m1 env σ → PX X a cls dd i x σ H01 → SatO (f d μ1) (PostH X D a i H1 H01 m1) → R v H1) : t σ H R := by
  refine ha x σ H env μ H0 m R rm en px (Sat.mono (SatO.liftH h) (fun d μ1 q => ?_) fun _ _ z => z)
  intro v H1 H01 m1 rm1 s1 r1
  exact k d μ1 v H1 H01 m1 rm1 s1 r1 (en.step s1) (px.step s1.same) (q.mono fun o μ2 z => z.later s1)
theorem hs_ret {x : Expr} {e : HE} (h : HEk X a oe cls dd pn i x e) : HSk X a oe cls dd pn i (.Return (some x) pos) (.ret e) := by
  obtain ⟨t, p, aa⟩ := h.val
  refine ⟨_, ps_ret p, fun y σ H env μ H0 m D rm en px h => ?_⟩
  simp only [evHS] at h
  refine aa.lift rm en px h fun d μ1 v H1 H01 m1 rm1 s1 r1 en1 px1 h1 => ?_
  exact h1 H1 H01 m1 rm1 Step.refl v r1
theorem hs_unk {x : Stmt} : HSk X a oe cls dd pn i x .unk := ⟨fun _ _ _ => False, ⟨fun pins s σ H D I z => z.elim⟩, fun y σ H env μ H0 m D rm en px h => by
  simp only [evHS] at h
  exact h.elim⟩
theorem hs_pss : HSk X a oe cls dd pn i (.Pass pos) .pss := ⟨_, ps_pass, fun y σ H env μ H0 m D rm en px h => by
  simp only [evHS, outO] at h
  exact h H H0 m rm Step.refl σ en px.1⟩
theorem hs_asg (g : Gd Γ k N sc X W) {x : Expr} {j : Nat} {nm : Str} {e : HE} {p : Pos} (hp : plX x = true) (hl : notLc x = true) (h1 : N[j]? = some nm) (h2 : locS sc nm = true) (hji : i ≠ some j) (h : HEk X a oe cls dd pn i x e) : HSk X a oe cls dd pn i (.Assign [.Name nm p] x pos) (.asg j e) := by
  obtain ⟨t, pe, aa⟩ := h.val
  obtain ⟨l1, l2⟩ := g.loc h2
  refine ⟨_, ps_set (X := X.suite a ((a, oe) :: pn)) (i := j) (show X.N.Nodup from by rw [g.hN]; exact g.nd) (show X.N[j]? = some nm from by rw [g.hN]; exact h1) l1 pe (swaps_pl hp hl) l2, fun y σ H env μ H0 m D rm en px h => ?_⟩
  simp only [evHS] at h
  refine aa.lift rm en px h fun d μ1 v H1 H01 m1 rm1 s1 r1 en1 px1 h1 => ?_
  refine h1 H1 H01 m1 rm1 Step.refl _ (en1.set r1) fun j' hj => ?_
  rw [List.getElem?_set_ne (fun z => hji (by rw [hj, z]))]
  exact px1.1 j' hj
theorem hs_if {x : Expr} {e : HE} {xa xb : List Stmt} {sa sb : HSs} (h : HEk X a oe cls dd pn i x e) (h1 : HSsk X a oe cls dd pn i xa sa) (h2 : HSsk X a oe cls dd pn i xb sb) : HSk X a oe cls dd pn i (.If x xa xb pos) (.ife e sa sb) := by
  obtain ⟨tc, pc, ac⟩ := h.tst
  obtain ⟨ta, pa, aa⟩ := h1.run
  obtain ⟨tb, pb, ab⟩ := h2.run
  refine ⟨_, ps_if pc pa pb, fun y σ H env μ H0 m D rm en px h => ?_⟩
  simp only [evHS] at h
  refine ac.lift rm en px h fun d μ1 v H1 H01 m1 rm1 s1 r1 en1 px1 h1 => ?_
  cases r1
  cases d with
  | true =>
    rw [if_pos rfl] at h1 ⊢
    exact aa y σ H1 env μ1 H01 m1 D rm1 en1 px1 h1
  | false =>
    rw [if_neg Bool.false_ne_true] at h1 ⊢
    exact ab y σ H1 env μ1 H01 m1 D rm1 en1 px1 h1
theorem hss_nil : HSsk X a oe cls dd pn i [] .nil := ⟨_, pss_nil, fun y σ H env μ H0 m D rm en px h => by
  simp only [evHSs, outO] at h
  exact h H H0 m rm Step.refl σ en px.1⟩
theorem hss_cons {x : Stmt} {xs : List Stmt} {s : HS} {ss : HSs} (h1 : HSk X a oe cls dd pn i x s) (h2 : HSsk X a oe cls dd pn i xs ss) : HSsk X a oe cls dd pn i (x :: xs) (.cons s ss) := by
  obtain ⟨t1, p1, a1⟩ := h1.run
  obtain ⟨t2, p2, a2⟩ := h2.run
  refine ⟨_, pss_cons p1 p2, fun y σ H env μ H0 m D rm en px h => ?_⟩
  simp only [evHSs] at h
  refine a1 y σ H env μ H0 m { D with nx := t2 D } rm en px (SatO.mono (SatO.seq h) fun o μ1 q => ?_)
  intro H1 H01 m1 rm1 s1
  cases o with
  | nx env1 => exact fun σ1 en1 sl => a2 y σ1 H1 env1 μ1 H01 m1 D rm1 en1 ⟨sl, (px.step s1.same).2⟩ (q.mono fun o μ z => z.later s1)
  | rt d => exact fun v r => q H1 H01 m1 rm1 s1 v r
  | bk env1 => trivial
  | ct env1 => trivial
  | ex x env1 => trivial
end
theorem Gd.tr {X : Cx} {W W' : WX} (g : Gd Γ k N sc X W) (pn : List (Addr × Obj)) (xe : Value → Shared → Prop) (tk : TakesB Γ.wk (X.tr pn xe) W') (po : PassesOwn (model X.prog X.w) X.A X.env xe) : Gd Γ k N { sc with top := false } (X.tr pn xe) W' where
  hN := g.hN
  nd := g.nd
  hsc := g.hsc
  kind := g.kind
  calm := g.calm
  room := g.room
  tk := tk
  po := po
  fn := g.fn
  call := fun f nm h => ⟨(g.call f nm h).ok⟩
  calls := fun f nm h => ⟨(g.calls f nm h).ok⟩
  blt := g.blt
  glo := g.glo
  lev := g.lev
  cls := g.cls
  sub := g.sub
  xf := g.xf
  stk := fun z => nomatch z
  pa := fun z => nomatch z
/-- defs that let out exceptions without a context only -/
def Gam.strong (Γ : Gam) : Gam := { Γ with fn := Γ.fns, wk := false }
theorem Gd.trs {X : Cx} {W W' : WX} (g : Gd Γ k N sc X W) (pn : List (Addr × Obj)) (xe : Value → Shared → Prop) (tk : L2N.Takes (X.tr pn xe) W') (po : PassesOwn (model X.prog X.w) X.A X.env xe) : Gd Γ.strong k N { sc with top := false } (X.tr pn xe) W' where
  hN := g.hN
  nd := g.nd
  hsc := g.hsc
  kind := g.kind
  calm := g.calm
  room := g.room
  tk := tk
  po := po
  fn := g.fn
  call := fun f nm h => ⟨(g.calls f nm h).ok⟩
  calls := fun f nm h => ⟨(g.calls f nm h).ok⟩
  blt := g.blt
  glo := g.glo
  lev := g.lev
  cls := g.cls
  sub := g.sub
  xf := g.xf
  stk := fun z => nomatch z
  pa := fun z => nomatch z
theorem NmV.one {mg : Str → Option Value} {c : Str} {U U' : Value} (h : NmV mg c U) (h' : NmV mg c U') : U' = U := by
  rcases h with ⟨n1, _⟩ | ⟨n1, n2, _⟩ <;> rcases h' with ⟨n3, _⟩ | ⟨n3, n4, _⟩
  · rw [n1] at n3; exact (Option.some.inj n3).symm
  · rw [n1] at n3; cases n3
  · rw [n1] at n3; cases n3
  · rw [n2] at n4; exact (Option.some.inj n4).symm
theorem NmV.names {X : Cx} {W : WX} (g : Gd Γ k N sc X W) {c : Str} {U : Value} (h : NmV X.mg c U) (hg : giB (sc.names.lookup c) = true) (hd : (c == ("__debug__" : Str)) = false) : Names X c U := by
  refine ⟨g.gl hg, hd, ?_⟩
  rcases h with ⟨n1, _⟩ | ⟨n1, n2, n3, _⟩
  · exact .inl n1
  · exact .inr ⟨n1, n2, n3⟩
theorem lookT_mem {tab : List (Str × Bool)} {c : Str} {b : Bool} (h : lookT tab c = some b) : (c, b) ∈ tab := by
  unfold lookT at h
  obtain ⟨q, hq, hqe⟩ := Option.map_eq_some_iff.mp h
  have h5 := List.find?_some hq
  have h6 := List.mem_of_find?_eq_some hq
  simp only [decide_eq_true_eq] at h5
  obtain ⟨q1, q2⟩ := q
  simp only at h5 hqe
  subst h5 hqe
  exact h6
theorem EnvOk.unset {K : PySem.W.Frag} {H0 : Hp} {m : List Addr} {env : Envv} {σ : L2.St} (h : EnvOk K H0 m env σ) (j : Nat) (z : Option V) : EnvOk K H0 m (env.set j none) (σ.set j z) := by
  refine ⟨by simpa using h.len, fun l d e => ?_⟩
  by_cases hj : j = l
  · subst hj
    by_cases hl : j < env.length
    · rw [List.getElem?_set_self hl] at e; cases e
    · rw [List.getElem?_eq_none (by simpa using hl)] at e; cases e
  · rw [List.getElem?_set_ne hj] at e ⊢
    exact h.get l d e
section
variable {X : Cx} {wk : Bool} {x n : Str} {c : Value} {i : Nat} {body suite : List Stmt} {b₀ : Stmt} {np pos pos' : Pos} {tb : WX → TS} {ts : Addr → Value → Option Addr → TS} {Wout : WX}
theorem psB_try_as (hs : X.stack = X.env :: X.outer) (hf : X.env.frame = some X.env.locals) (hN : X.N.Nodup) (hi : X.N[i]? = some n) (hln : X.env.kindOf n = some .local) (hc : Names X x c) (tk : TakesB wk X Wout)
    (hb : ∀ (W : WX) (pn : List (Addr × Obj)) (xe : Value → Shared → Prop), TakesB wk (X.tr pn xe) W → PassesOwn (model X.prog X.w) X.A X.env xe → PSs (X.tr pn xe) body (tb W))
    (hsu : ∀ (a : Addr) (oe : Obj) (cls : Value) (d : Option Addr) (pn : List (Addr × Obj)), Zc cls d oe → (∃ vs, oe.data = .fields vs) → PSs (X.suite a ((a, oe) :: pn)) (b₀ :: suite) (ts a cls d)) :
    PS X (.Try body [.ExceptHandler (some (.Name x np)) (some n) (b₀ :: suite) pos'] [] [] pos) (fun D σ H => tb (wAs X.K c i ts Wout D) D σ H) := by
  cases wk with
  | false => exact L2N.ps_try_as hs hf hN hi hln hc tk hb fun a oe cls d pn hz => hsu a oe cls d pn hz.zc
  | true => exact L2.ps_try_as hs hf hN hi hln hc tk hb hsu
theorem psB_try_one (hs : X.stack = X.env :: X.outer) (hf : X.env.frame = some X.env.locals) (tk : TakesB wk X Wout)
    (hb : ∀ (W : WX) (pn : List (Addr × Obj)) (xe : Value → Shared → Prop), TakesB wk (X.tr pn xe) W → PassesOwn (model X.prog X.w) X.A X.env xe → PSs (X.tr pn xe) body (tb W)) (hc : Names X x c)
    (hsu : ∀ (a : Addr) (oe : Obj) (cls : Value) (d : Option Addr) (pn : List (Addr × Obj)), Zc cls d oe → (∃ vs, oe.data = .fields vs) → PSs (X.suite a ((a, oe) :: pn)) (b₀ :: suite) (ts a cls d)) :
    PS X (.Try body [.ExceptHandler (some (.Name x np)) none (b₀ :: suite) pos'] [] [] pos) (fun D σ H => tb (wMany X.K Wout D [(c, ts)]) D σ H) := by
  cases wk with
  | false => exact L2N.ps_try_many hs hf tk hb (.cons hc (fun a oe cls d pn hz => hsu a oe cls d pn hz.zc) .nil)
  | true => exact L2.ps_try_many hs hf tk hb (.cons hc hsu .nil)
end
/-- try: body, except c as n: suite -/
theorem vs_tryA {c n : Str} {j : Nat} {tab : List (Str × Bool)} {body suite : List Stmt} {b₀ : Stmt} {b : Ss} {h : HSs} {np pos' : Pos} (ht : sc.top = true) (hi : N[j]? = some n) (hln : sc.names.lookup n = some .local) (hgc : giB (sc.names.lookup c) = true) (hdc : (c == ("__debug__" : Str)) = false)
    (htab : ∀ p ∈ tab, (p.1, c, p.2) ∈ Γ.sub) (hne : tab ≠ []) (hb : VSs Γ k N { sc with top := false } body b) (hh : ∀ X W, Gd Γ k N sc X W → ∀ a oe cls dd pn, Zc cls dd oe → (∃ vs, oe.data = .fields vs) → HSsk X a oe cls dd pn (some j) (b₀ :: suite) h) :
    VS Γ k N sc (.Try body [.ExceptHandler (some (.Name c np)) (some n) (b₀ :: suite) pos'] [] [] pos) (.tryx b c tab (some j) h) := ⟨fun X W g => by
  obtain ⟨hs, hf⟩ := g.stk ht
  obtain ⟨U, nv⟩ : ∃ U, NmV X.mg c U := by
    cases tab with
    | nil => exact absurd rfl hne
    | cons p r =>
      obtain ⟨_, U, _, _, nv, _⟩ := g.sub _ _ _ (htab p (by simp))
      exact ⟨U, nv⟩
  have hbr := fun W' pn xe tk po => hb.run (X.tr pn xe) W' (g.tr (W' := W') pn xe tk po)
  have hhr := fun a oe cls dd pn hz hf => (hh X W g a oe cls dd pn hz hf).run
  let tb : WX → TS := fun W' D σ H => ∀ pn xe tk po, (hbr W' pn xe tk po).choose D σ H
  let ts : Addr → Value → Option Addr → TS := fun a cls dd D σ H => ∀ oe pn hz hf, (hhr a oe cls dd pn hz hf).choose D σ H
  refine ⟨_, psB_try_as (i := j) (tb := tb) (ts := ts) hs hf (by rw [g.hN]; exact g.nd) (by rw [g.hN]; exact hi) (by unfold Env.kindOf; rw [g.hsc]; exact hln) (nv.names g hgc hdc) g.tk
    (fun W' pn xe tk po => ⟨fun pins s σ H D I q => ((hbr W' pn xe tk po).choose_spec.1).run pins s σ H D I (q pn xe tk po)⟩)
    (fun a oe cls dd pn hz hf => ⟨fun pins s σ H D I q => ((hhr a oe cls dd pn hz hf).choose_spec.1).run pins s σ H D I (q oe pn hz hf)⟩), fun σ H env μ H0 m D rm en hq => ?_⟩
  simp only [evS] at hq
  intro pn xe tk po
  refine (hbr _ pn xe tk po).choose_spec.2 σ H env μ H0 m D rm en ?_
  cases er : evSs Γ.F b env μ with
  | none => rw [er] at hq; exact hq.elim
  | some p =>
    obtain ⟨o, μ1⟩ := p
    rw [er] at hq
    cases o with
    | nx env1 => exact hq
    | rt d => exact hq
    | bk env1 => exact hq
    | ct env1 => exact hq
    | ex x env1 =>
      intro H1 H01 m1 rm1 s1 σ1 cls dd en1 ex1
      obtain ⟨C, e1, e2, e3⟩ := ex1
      simp only [tryO] at hq
      split at hq
      · rename_i hl
        obtain ⟨C', U', m', _, nv', xm, _⟩ := g.sub _ _ _ (htab _ (lookT_mem hl))
        have e1' : X.mg x.cls = some (.ref C) := e1
        rw [e1'] at m'
        cases m'
        obtain rfl := nv.one nv'
        refine ⟨true, by rw [e2]; exact xm, fun _ a na oe pn' hz hf' => ?_, fun z => (by cases z)⟩
        split at hq
        · rename_i hok
          have hjl : j < σ1.length := by rw [← en1.len]; simpa [okI] using hok
          refine (hhr a oe cls dd pn' hz hf').choose_spec.2 x (σ1.set j (some (.ref a))) H1 (unbE (some j) env1) μ1 H01 m1 _ rm1 (en1.unset j _) ⟨fun j' hj' => ?_, C, e1, e2, e3⟩ ?_
          · cases hj'
            rw [List.getElem?_set_self hjl]
          · show SatO (evHSs x h (unbE (some j) env1) μ1) _
            cases eh : evHSs x h (unbE (some j) env1) μ1 with
            | none => rw [eh] at hq; exact hq.elim
            | some p =>
              obtain ⟨o, μ2⟩ := p
              rw [eh] at hq
              intro H2 H02 m2 rm2 s2
              have hq : PostS X W D H H0 m (unbO (some j) o) μ2 := hq
              cases o with
              | nx env2 => exact fun σ2 en2 _ => hq H2 H02 m2 rm2 (s1.trans s2) _ (en2.unset j none)
              | rt d => exact fun v r => hq H2 H02 m2 rm2 (s1.trans s2) v r
              | bk env2 => trivial
              | ct env2 => trivial
              | ex y env2 => trivial
        · exact hq.elim
      · rename_i hl
        obtain ⟨C', U', m', _, nv', xm, _⟩ := g.sub _ _ _ (htab _ (lookT_mem hl))
        have e1' : X.mg x.cls = some (.ref C) := e1
        rw [e1'] at m'
        cases m'
        obtain rfl := nv.one nv'
        refine ⟨false, by rw [e2]; exact xm, fun z => (by cases z), fun _ => ?_⟩
        exact hq H1 H01 m1 rm1 s1 σ1 cls dd en1 ⟨C, e1, e2, e3⟩
      · exact hq.elim⟩
/-- try: body, except c: suite -/
theorem vs_tryN {c : Str} {tab : List (Str × Bool)} {body suite : List Stmt} {b₀ : Stmt} {b : Ss} {h : HSs} {np pos' : Pos} (ht : sc.top = true) (hgc : giB (sc.names.lookup c) = true) (hdc : (c == ("__debug__" : Str)) = false)
    (htab : ∀ p ∈ tab, (p.1, c, p.2) ∈ Γ.sub) (hne : tab ≠ []) (hb : VSs Γ k N { sc with top := false } body b) (hh : ∀ X W, Gd Γ k N sc X W → ∀ a oe cls dd pn, Zc cls dd oe → (∃ vs, oe.data = .fields vs) → HSsk X a oe cls dd pn none (b₀ :: suite) h) :
    VS Γ k N sc (.Try body [.ExceptHandler (some (.Name c np)) none (b₀ :: suite) pos'] [] [] pos) (.tryx b c tab none h) := ⟨fun X W g => by
  obtain ⟨hs, hf⟩ := g.stk ht
  obtain ⟨U, nv⟩ : ∃ U, NmV X.mg c U := by
    cases tab with
    | nil => exact absurd rfl hne
    | cons p r =>
      obtain ⟨_, U, _, _, nv, _⟩ := g.sub _ _ _ (htab p (by simp))
      exact ⟨U, nv⟩
  have hbr := fun W' pn xe tk po => hb.run (X.tr pn xe) W' (g.tr (W' := W') pn xe tk po)
  have hhr := fun a oe cls dd pn hz hf => (hh X W g a oe cls dd pn hz hf).run
  let tb : WX → TS := fun W' D σ H => ∀ pn xe tk po, (hbr W' pn xe tk po).choose D σ H
  let ts : Addr → Value → Option Addr → TS := fun a cls dd D σ H => ∀ oe pn hz hf, (hhr a oe cls dd pn hz hf).choose D σ H
  refine ⟨_, psB_try_one (tb := tb) (ts := ts) hs hf g.tk
    (fun W' pn xe tk po => ⟨fun pins s σ H D I q => ((hbr W' pn xe tk po).choose_spec.1).run pins s σ H D I (q pn xe tk po)⟩)
    (nv.names g hgc hdc) (fun a oe cls dd pn hz hf => ⟨fun pins s σ H D I q => ((hhr a oe cls dd pn hz hf).choose_spec.1).run pins s σ H D I (q oe pn hz hf)⟩), fun σ H env μ H0 m D rm en hq => ?_⟩
  simp only [evS] at hq
  intro pn xe tk po
  refine (hbr _ pn xe tk po).choose_spec.2 σ H env μ H0 m D rm en ?_
  cases er : evSs Γ.F b env μ with
  | none => rw [er] at hq; exact hq.elim
  | some p =>
    obtain ⟨o, μ1⟩ := p
    rw [er] at hq
    cases o with
    | nx env1 => exact hq
    | rt d => exact hq
    | bk env1 => exact hq
    | ct env1 => exact hq
    | ex x env1 =>
      intro H1 H01 m1 rm1 s1 σ1 cls dd en1 ex1
      obtain ⟨C, e1, e2, e3⟩ := ex1
      simp only [tryO] at hq
      split at hq
      · rename_i hl
        obtain ⟨C', U', m', _, nv', xm, _⟩ := g.sub _ _ _ (htab _ (lookT_mem hl))
        have e1' : X.mg x.cls = some (.ref C) := e1
        rw [e1'] at m'
        cases m'
        obtain rfl := nv.one nv'
        refine ⟨true, by rw [e2]; exact xm, fun _ a na oe pn' hz hf' => ?_, fun z => (by cases z)⟩
        split at hq
        · refine (hhr a oe cls dd pn' hz hf').choose_spec.2 x σ1 H1 (unbE none env1) μ1 H01 m1 _ rm1 en1 ⟨fun j' hj' => (by cases hj'), C, e1, e2, e3⟩ ?_
          show SatO (evHSs x h (unbE none env1) μ1) _
          cases eh : evHSs x h (unbE none env1) μ1 with
          | none => rw [eh] at hq; exact hq.elim
          | some p =>
            obtain ⟨o, μ2⟩ := p
            rw [eh] at hq
            intro H2 H02 m2 rm2 s2
            have hq : PostS X W D H H0 m (unbO none o) μ2 := hq
            cases o with
            | nx env2 => exact fun σ2 en2 _ => hq H2 H02 m2 rm2 (s1.trans s2) _ en2
            | rt d => exact fun v r => hq H2 H02 m2 rm2 (s1.trans s2) v r
            | bk env2 => trivial
            | ct env2 => trivial
            | ex y env2 => trivial
        · exact hq.elim
      · rename_i hl
        obtain ⟨C', U', m', _, nv', xm, _⟩ := g.sub _ _ _ (htab _ (lookT_mem hl))
        have e1' : X.mg x.cls = some (.ref C) := e1
        rw [e1'] at m'
        cases m'
        obtain rfl := nv.one nv'
        refine ⟨false, by rw [e2]; exact xm, fun z => (by cases z), fun _ => ?_⟩
        exact hq H1 H01 m1 rm1 s1 σ1 cls dd en1 ⟨C, e1, e2, e3⟩
      · exact hq.elim⟩
theorem pmk5_own {X : Cx} {C : Addr} {bmB : List Value} {B newId initId : String} {x m : Str} {j : Nat} {p p2 pos : Pos} (F : ExcBaseFacts B newId initId bmB) (q : PySem.W.excIn X.K C bmB newId = true) (gC : X.mg x = some (.ref C)) (kC : PySem.W.keepIn X.K (.ref C) = true) (r : Raises X (.ref C)) (hg : Gl X x)
    (hdb : (x == ("__debug__" : Str)) = false) : L2H.PMk5 X (.Call (.Name x p) [.Constant (.str m) j p2] [] pos) (fun _ H Q => Q (.ref C) none H) := by
  intro pins s σ H Q I h
  refine wpAny_Call_Name_kw (ld_glob I hg gC ?_ hdb)
  have ha : PA X [.Constant (.str m) j p2] (tCons (tC (.str m)) tNil) := pa_cons pe_str pa_nil
  refine PySem.W.callWith_K (h₀ := X.base) I.ok.mod.kin kC (thn (ha.run pos pins s σ H (fun vs H1 => vs = [V.str m] ∧ H = H1) I ⟨rfl, rfl⟩) fun us s1 hh => ?_)
  obtain ⟨vs, H1, I1, r1, ev, eH⟩ := hh
  subst ev
  rw [← eH] at I1
  refine ⟨I1.kIn, ?_⟩
  cases r1 with
  | cons ru rn =>
    rename_i u us'
    cases rn
    show wpAny _ _ (call (.ref C) [u]) _ _ _
    obtain ⟨bm, N, nm, qn, bs, hdct, sn, sub, ab, col, dd, k0, k1, k2, k3, k5, mN, hC, hN, hni, T⟩ := exc_obj I1.kIn q
    refine wpAny_call_exc_subT F T hC hN hni (fun h' e hm => ?_) (by show 1 ≤ sizeLine; rw [sizeLine_eq]; omega)
    exact L2H.mk_of5 I1 hm r h (I1.hok.gone hm.new)
/-- try: one call, except c: raise c2(m) from None -/
theorem vs_tryr {c c2 m : Str} {tab : List (Str × Bool)} {x : Expr} {e : E} {bp np q1 q2 q3 q4 q5 pos' : Pos} {j j2 : Nat} (ht : sc.top = true) (hwk : Γ.wk = true) (hgc : giB (sc.names.lookup c) = true) (hdc : (c == ("__debug__" : Str)) = false)
    (htab : ∀ p ∈ tab, (p.1, c, p.2) ∈ Γ.sub) (hne : tab ≠ []) (hb : VS Γ.strong k N { sc with top := false } (.Expr x bp) (.xpr e)) (hc2 : (⟨c2, [], false⟩ : ClsI) ∈ Γ.cls) (hg2 : giB (sc.names.lookup c2) = true) (hd2 : (c2 == ("__debug__" : Str)) = false) :
    VS Γ k N sc (.Try [.Expr x bp] [.ExceptHandler (some (.Name c np)) none [.Raise (some (.Call (.Name c2 q1) [.Constant (.str m) j q2] [] q3)) (some (.Constant .none j2 q4)) q5] pos'] [] [] pos) (.tryr e c tab c2 m) := ⟨fun X W g => by
  obtain ⟨hs, hf⟩ := g.stk ht
  obtain ⟨U, nv⟩ : ∃ U, NmV X.mg c U := by
    cases tab with
    | nil => exact absurd rfl hne
    | cons p r =>
      obtain ⟨_, U, _, _, nv, _⟩ := g.sub _ _ _ (htab p (by simp))
      exact ⟨U, nv⟩
  have tk2 : L2.Takes X W := by
    have := g.tk
    rw [hwk] at this
    exact this
  obtain ⟨C, mgC, FC, hno, hini⟩ := g.cls _ hc2
  rw [if_neg (show ¬ (false = true) by decide)] at hini
  obtain ⟨q, kC, tC⟩ := hini
  have hbr := fun W' pn xe tk po => hb.run (X.tr pn xe) W' (g.trs (W' := W') pn xe tk po)
  let tb : WX → TS := fun W' D σ H => ∀ pn xe tk po, (hbr W' pn xe tk po).choose { D with nx := fun σ H => D.nx σ H } σ H
  refine ⟨_, L2H.ps_try_onlyX (tb := tb) (Wout := W) hs hf (nv.names g hgc hdc) (g.pa ht) tk2
    (fun W' pn xe tkn tkp po => pss_one ⟨fun pins s σ H D I q => ((hbr W' pn xe tkn po).choose_spec.1).run pins s σ H D I (q pn xe tkn po)⟩)
    (fun a oe cls d pn hz hfd tkS hot => pss_one (L2H.ps_raiseHN hot tkS (pmk5_own (X := L2H.suiteX X a ((a, oe) :: pn)) PySem.F.excBase_ValueError q mgC kC (raises_own FC.ex tC) (g.gl hg2) hd2))), fun σ H env μ H0 m D rm en hq => ?_⟩
  simp only [evS] at hq
  intro pn xe tk po
  refine (hbr _ pn xe tk po).choose_spec.2 σ H env μ H0 m _ rm en ?_
  have er0 : evS Γ.strong.F (.xpr e) env μ = evS Γ.F (.xpr e) env μ := rfl
  rw [er0]
  simp only [evS] at hq ⊢
  cases er : MI.lift (evE Γ.F e env) env (fun _ => outO (.nx env)) μ with
  | none => rw [er] at hq; exact hq.elim
  | some p =>
    obtain ⟨o, μ1⟩ := p
    rw [er] at hq
    cases o with
    | nx env1 => exact hq
    | rt d => exact hq
    | bk env1 => exact hq
    | ct env1 => exact hq
    | ex x env1 =>
      intro H1 H01 m1 rm1 s1 σ1 cls dd en1 ex1
      obtain ⟨C1, e1, e2, e3⟩ := ex1
      simp only [tryR] at hq
      split at hq
      · rename_i hl
        obtain ⟨C', U', m', _, nv', xm, _⟩ := g.sub _ _ _ (htab _ (lookT_mem hl))
        have e1' : X.mg x.cls = some (.ref C1) := e1
        rw [e1'] at m'
        cases m'
        obtain rfl := nv.one nv'
        exact ⟨true, by rw [e2]; exact xm, fun _ a na => hq H1 H01 m1 rm1 s1 σ1 (.ref C) none en1 ⟨C, mgC, rfl, .inl ⟨rfl, rfl⟩⟩, fun z => (by cases z)⟩
      · rename_i hl
        obtain ⟨C', U', m', _, nv', xm, _⟩ := g.sub _ _ _ (htab _ (lookT_mem hl))
        have e1' : X.mg x.cls = some (.ref C1) := e1
        rw [e1'] at m'
        cases m'
        obtain rfl := nv.one nv'
        exact ⟨false, by rw [e2]; exact xm, fun z => (by cases z), fun _ => hq H1 H01 m1 rm1 s1 σ1 cls dd en1 ⟨C1, e1, e2, e3⟩⟩
      · exact hq.elim⟩
end MI
/-! MIN: an exception that is made and not raised; its fields. -/
namespace MI
open PySem PySem.Spec PyProof.Rows L2
def tNew (C : Addr) (sp : Sp) (ta : TA) : TE := fun σ H Q => ta σ H fun vs H1 => vs.length ≤ 1000 ∧ ∀ a, H1 a = none → sp (.ref a :: (vs ++ [])) (upd H1 a (exo a C none)) (fun v H2 => v = .non ∧ Q (.ref a) H2) (fun _ _ _ => False)
theorem pe_new {X : Cx} {CX : CXT} {nm : Str} {C fI : Addr} {j : Nat} {fd : FuncData} {prs : List Str} {sp : Sp} {e1 : Expr} {es1 : List Expr} {t1 : TA} {q1 q2 : Pos} (TC : OexC X.K C)
    (hI : PySem.W.findIn X.K (.ref C) "__init__" = some (some (.ref fI))) (hT : PySem.W.typeIn X.K (.ref fI) = some (.type "function")) (FI : FnOk X.prog X.w X.K X.mg X.base CX j fI fd prs sp)
    (rm : Room (j + 1) X.A) (bd : Binds X.K fd prs []) (ps0 : Passes CX X (fun _ _ _ => False)) (gl : Gl X nm) (mgx : X.mg nm = some (.ref C)) (pa : PA X (e1 :: es1) t1) (dbg : (nm == ("__debug__" : Str)) = false)
    (st1 : starEach (e1 :: es1) X.env = (false, eval e1 X.env) :: starEach es1 X.env) (st2 : (backTo q2 (starEach es1 X.env)).any (·.1) = false) :
    PE X (.Call (.Name nm q1) (e1 :: es1) [] q2) (tNew C sp t1) := by
  refine ⟨fun pns s0 σ0 Hh Qx Iv hh => ?_⟩
  have TC' := TC.cls
  obtain ⟨a1, a2, a3, a4, bmv, a6, a7, a8, a9, a10, a11, a12, a13, a14, a15, lkC, rve⟩ := TC'
  refine wpAny_Call_Name_kw (ld_glob Iv gl mgx ?_ dbg)
  refine PySem.W.callWith_K (h₀ := X.base) Iv.ok.mod.kin TC.kC (thn (pa.run q2 pns s0 σ0 Hh _ Iv hh) fun wv sA ⟨xs, HA, IA, rA, hzA, qA⟩ => ⟨IA.kIn, ?_⟩) st1 st2
  show wpAny _ _ (call (.ref C) wv) _ _ _
  obtain ⟨g0, g1, g2, g3, g4⟩ := sA
  let a0 : Addr := g0.objs.size + 1
  have big : g0.objs.size ≤ a0 := Nat.le_succ _
  have free : HA a0 = none := IA.hok.fresh big
  have hsp := qA a0 free
  rw [List.append_nil] at hsp
  have keep : ∀ c o, g0.get? c = some o → ((g0.push (PySem.W.kdv_tup wv)).push (PySem.HandSPX.excO C g0.objs.size)).get? c = some o := fun c o z =>
    Heap.get?_push_of_some _ (Heap.get?_push_of_some _ z)
  have there : ((g0.push (PySem.W.kdv_tup wv)).push (PySem.HandSPX.excO C g0.objs.size)).get? (g0.objs.size + 1) = some (PySem.HandSPX.excO C g0.objs.size) := by heap_get
  have IB : Inv X pns σ0 (upd HA a0 (exo a0 C none)) ⟨(g0.push (PySem.W.kdv_tup wv)).push (PySem.HandSPX.excO C g0.objs.size), g1, g2, g3, g4⟩ :=
    IA.laid (t' := g3) (a := a0) (o := exo a0 C none) (h' := (g0.push (PySem.W.kdv_tup wv)).push (PySem.HandSPX.excO C g0.objs.size)) keep big (exo_ok there)
  have vals : Vals (V.ref a0 :: xs) (Value.ref a0 :: wv) := .cons rfl rA
  have len1 : (Value.ref a0 :: wv ++ []).length = prs.length := by
    have z := vals.length
    rw [FI.len _ _ _ _ hsp] at z
    rw [List.append_nil]
    exact z.symm
  have few : wv.length ≤ sizeLine := by
    rw [← Paired.length rA, sizeLine_eq]
    omega
  have bnd := bd _ (Value.ref a0 :: wv) IB.kIn len1
  rw [List.append_nil] at bnd
  have run := FI.run _ X.stack _ _ ⟨Value.ref a0 :: wv, []⟩ (Value.ref a0 :: wv) _ _ (fun _ _ _ => False) (rm.make C wv []) (IB.env0.make C wv []) bnd vals hsp
  refine wpAny_call (PySem.HandSPX.call_own F.excBase_ValueError (fun Y => PySem.HandSPX.refsVE_contains Y bmv rve) (IA.kIn _ _ lkC) (PySem.W.looks_findIn IA.kIn hI) (fun me => PySem.W.bind_fn IA.kIn me hT) few
    (codeAny_mono run fun res sB hB => ?_))
  cases res with
  | error er => exact ps0 pns σ0 _ _ er sB IB hB
  | ok fl =>
    cases fl with
    | next => exact False.elim hB
    | brk => exact False.elim hB
    | cont => exact False.elim hB
    | ret u =>
      obtain ⟨v, HB, osB, bareB, unB, hokB, rv, ev, qB⟩ := hB
      subst ev
      have IC : Inv X pns σ0 HB sB := IB.call' (ch := []) osB unB hokB bareB (fun b z => absurd z (by simp))
      exact ⟨rv, .ref a0, HB, IC, rfl, qB⟩
/-- x.f, x an exception that was made -/
def tFld (K : PySem.W.Frag) (f : Str) (te : TE) : TE := fun σ H Q => te σ H fun x H1 => ∃ (a C dx : Addr) (fs : List (Str × V)) (v : V), x = .ref a ∧ XfC K C ∧ PySem.W.findIn K (.ref C) f = some none ∧ H1 a = some (exo a C (some dx)) ∧ H1 dx = some (exd dx fs) ∧ fs.lookup f = some v ∧ Q v H1
theorem pe_fld {X : Cx} {e : Expr} {te : TE} {pos : Pos} {n : Str} (he : PE X e te) (hb : attributeBase e n X.env (eval e X.env) = eval e X.env := by rfl) : PE X (.Attribute e n pos) (tFld X.K n te) := by
  refine ⟨fun pins s σ H Q I h => ?_⟩
  refine attr_of hb (thn (he.run pins s σ H _ I h) fun u s1 hh => ?_)
  obtain ⟨x, H1, I1, rx, a, C, dd, fs, v, ex, T, hno, ea, ed, l, q⟩ := hh
  subst ex
  obtain rfl : u = Value.ref a := rx
  obtain ⟨t0, hoe⟩ := exo_at I1.hok ea
  obtain ⟨mA, hns, hr⟩ := exd_at I1.hok ed
  obtain ⟨od, ho, hl⟩ := lookIn_ns hns
  obtain ⟨w, hu, ru⟩ := RelO.some_of (v := v) (o := mA n) (by rw [← l]; exact hr n)
  have J : PySem.W.InstAt s1.heap a ({ cls := .ref C, dict := some dd, data := .fields #[.ref t0, .none, .none, .none, .bool false, .none] } : Obj) C (some od) := ⟨hoe, rfl, rfl, ho⟩
  exact HandSPX.exc_get I1.kIn J T.ga T.gg T.exC (PySem.W.findObj_own T.hdC hno rfl (by rw [hl, hu])) (handed_of ru) ⟨v, H1, I1.tok _, ru, q⟩
variable {Γ : Gam} {k : Nat} {N : List Str} {sc : Sco} {pos : Pos}
theorem ve_new {c : Str} {fs : List Str} {e0 : Expr} {xs : List Expr} {es : Es} {p p2 : Pos} (hc : (⟨c, fs, true⟩ : ClsI) ∈ Γ.cls) (hl : fs.length ≤ 9) (hg : giB (sc.names.lookup c) = true) (hd : (c == ("__debug__" : Str)) = false) (ha : VEs Γ k N sc (e0 :: xs) es) :
    VE Γ k N sc (.Call (.Name c p) (e0 :: xs) [] p2) (.new c fs es) := ⟨fun X W g => by
  obtain ⟨ta, pa, aa⟩ := ha.run X W g
  obtain ⟨C, mgC, FC, hno, hini⟩ := g.cls _ hc
  rw [if_pos rfl] at hini
  obtain ⟨T, fI, fd, slf, hI, hT, hb, FI⟩ := hini
  have hp := ha.pl
  simp only [List.all_cons, Bool.and_eq_true] at hp
  have ps0 : Passes (L2N.CX X.prog X.w) X (fun _ _ _ => False) := L2N.passes_call g.tk.n (fun _ _ _ _ z => z.elim)
  refine ⟨_, pe_new T hI hT FI g.rsvm hb ps0 (g.gl hg) mgC pa hd (starEach_pl hp.1) (starEach_any hp.2), fun σ H env μ H0 m Q rm en h => ?_⟩
  simp only [evE] at h
  refine aa.bnd rm en h fun ds μ1 vs H1 H01 m1 rm1 s1 r1 en1 h1 => ?_
  split at h1
  · rename_i ts et
    split at h1
    · rename_i hz
      have h1 : PostE X.K Q H H0 m (.ref μ1.length) (μ1 ++ [.exn (fs.zip ts).reverse]) := h1
      have et := toTs_map et
      have hlen : vs.length = fs.length := by rw [← reps_len r1, et, List.length_map, hz]
      refine ⟨by omega, fun a na => ⟨a, vs, by rw [List.append_nil], hlen, T, hno, upd_same, fun dx hn hne => ⟨rfl, ?_⟩⟩⟩
      have hn' : H1 dx = none := by
        rw [upd_ne hne] at hn
        exact hn
      have e : upd (upd (upd H1 a (exo a C none)) dx (exd dx (fs.zip vs).reverse)) a (exo a C (some dx)) = upd (upd H1 dx (exd dx (fs.zip vs).reverse)) a (exo a C (some dx)) := by
        funext b
        by_cases h2 : b = a
        · subst h2
          rw [upd_same, upd_same]
        · rw [upd_ne h2, upd_ne h2]
          by_cases h3 : b = dx
          · subst h3
            rw [upd_same, upd_same]
          · rw [upd_ne h3, upd_ne h3, upd_ne h2]
      rw [e]
      have rm2 := rm1.newF (o := exd dx (fs.zip vs).reverse) hn'
      have st2 : Step H1 H01 m1 _ _ m1 := Step.newF rm1.same (o := exd dx (fs.zip vs).reverse) hn'
      have na2 : upd H1 dx (exd dx (fs.zip vs).reverse) a = none := by rw [upd_ne (Ne.symm hne)]; exact na
      have rp : repF X.K (upd H01 dx (exd dx (fs.zip vs).reverse)) (fs.zip ts).reverse (fs.zip vs).reverse := by
        refine repF.mono (Same.upd (rm1.same.free hn')) (repF_zip ?_)
        rw [repT_ts (m := m1), ← et]
        exact r1
      refine h1 (.ref a) _ _ (m1 ++ [a]) (rm2.newC (o := exo a C (some dx)) (cl := .exn (fs.zip ts).reverse) na2 ⟨?_, C, dx, _, upd_same, upd_same, rp, ⟨FC.ga, FC.gg, FC.ex, FC.hd⟩, fun q hq => ?_⟩) (s1.trans (st2.trans (Step.newC na2))) ?_
      · exact rm2.same.free na2
      · have hm := List.mem_reverse.mp hq
        exact hno _ (List.of_mem_zip hm).1
      · simp only [rep]
        exact ⟨a, by rw [← rm1.len]; simp, rfl⟩
    · exact h1.elim
  · exact h1.elim⟩
theorem ve_fldv {i : Nat} {x f : Str} {p : Pos} (h1 : N[i]? = some x) (h2 : visB (sc.names.lookup x) = true) (h3 : (x == ("__debug__" : Str)) = false) (h4 : (x == ("__classdict__" : Str)) = false) : VE Γ k N sc (.Attribute (.Name x p) f pos) (.fldv i f) := ⟨fun X W g => by
  refine ⟨_, pe_fld (pe_var (i := i) (by rw [g.hN]; exact h1) (g.vis h2) h3 h4), fun σ H env μ H0 m Q rm en h => ?_⟩
  simp only [evE] at h
  split at h
  · rename_i c e
    split at h
    · rename_i fts ec
      split at h
      · rename_i t et
        have h : PostE X.K Q H H0 m (.t t) μ := h
        obtain ⟨v, e1, r1⟩ := en.get i _ e
        simp only [rep] at r1
        obtain ⟨a, ha, rfl⟩ := r1
        obtain ⟨_, C, dx, fvs, g1, g2, g3, g4, g5⟩ := rm.ref ha ec
        obtain ⟨w, l1, l2⟩ := repF_get g3 et
        have hf : PySem.W.findIn X.K (.ref C) f = some none := by
          unfold lookF at et
          obtain ⟨z, hz⟩ : ∃ z, fts.find? (fun p => decide (p.1 = f)) = some z := by
            cases hq : fts.find? (fun p => decide (p.1 = f)) with
            | none => rw [hq] at et; cases et
            | some z => exact ⟨z, rfl⟩
          have hm := List.mem_of_find?_eq_some hz
          have hp := List.find?_some hz
          simp only [decide_eq_true_eq] at hp
          rw [← hp]
          exact g5 z hm
        exact ⟨.ref a, e1, a, C, dx, fvs, w, rfl, g4, hf, g1, rm.same _ _ g2, l1, h w H H0 m rm Step.refl (by simp only [rep]; exact l2)⟩
      · exact h.elim
    · exact h.elim
  · exact h.elim⟩
end MI
/-! MIH: a def that is handed the handled exception: `if isinstance(e, (..)): return True` and `return isinstance(e, (..))`. -/
namespace MI
open PySem PySem.Spec PyProof.Rows L2

theorem Grw.trans {H H1 H2 : Hp} (h1 : Grw H H1) (h2 : Grw H1 H2) : Grw H H2 := by
  induction h2 with
  | refl => exact h1
  | tup _ hp ih => exact .tup ih hp
theorem Grw.keep {H H1 : Hp} (h : Grw H H1) {d : Addr} {o : HO} (e : H d = some o) : H1 d = some o := by
  induction h with
  | refl => exact e
  | @tup H1 p cs _ hp ih =>
    rw [upd_ne (fun z => by rw [z, hp] at ih; cases ih)]
    exact ih
theorem Grw.step {K : PySem.W.Frag} {H H1 H0 : Hp} {m : List Addr} {μ : Mem} (h : Grw H H1) (rm : RelM K H H0 m μ) : ∃ H01, RelM K H1 H01 m μ ∧ Step H H0 m H1 H01 m := by
  induction h with
  | refl => exact ⟨H0, rm, Step.refl⟩
  | tup _ hp ih =>
    obtain ⟨H01, rm1, s1⟩ := ih
    exact ⟨_, rm1.newF hp, s1.trans (Step.newF rm1.same hp)⟩
def nmsB : List Str → List Expr → Bool
  | [], [] => true
  | a :: as, .Name x _ :: xs => decide (x = a) && nmsB as xs
  | _, _ => false
def isTB (y : Str) (as : List Str) : Expr → Bool
  | .Call (.Name i _) [.Name z _, .Tuple xs _ _] [] _ => decide (i = "isinstance") && decide (z = y) && nmsB as xs
  | _ => false
def othB (y : Str) (as bs : List Str) : List Stmt → Bool
  | [.If c [.Return (some (.Constant (.bool b) _ _)) _] [] _, .Return (some e) _] => b && isTB y as c && isTB y bs e
  | _ => false
section
variable {X : Cx} {a : Addr} {oe : Obj} {pn : List (Addr × Obj)} {C : Addr} {dd : Option Addr}
theorem nmsB_cons {x : Str} {as : List Str} {xs : List Expr} (h : nmsB (x :: as) xs = true) : ∃ p r, xs = .Name x p :: r ∧ nmsB as r = true := by
  unfold nmsB at h
  split at h
  · rename_i e1
    cases e1
  · rename_i a1 as1 y p r e1
    cases e1
    simp only [Bool.and_eq_true, decide_eq_true_eq] at h
    obtain ⟨rfl, h⟩ := h
    exact ⟨p, r, rfl, h⟩
  · cases h
theorem pa_nms {Z : Cx} {tb : Str → Bool} (t : Value) : ∀ (as : List Str) (xs : List Expr), nmsB as xs = true → (∀ x ∈ as, Gl Z x ∧ (x == ("__debug__" : Str)) = false ∧ ∃ V, NmV Z.mg x V ∧ PySem.W.kitOne Z.K t V = some (tb x)) →
    ∃ (tt : TA) (cs : List V) (us : List Value), PA Z xs tt ∧ (∀ σ H R, R cs H → tt σ H R) ∧ Paired ClsV cs us ∧ cs.length = as.length ∧ PySem.W.kitAny Z.K t us = some (as.any tb)
  | [], xs, h, _ => by
    cases xs with
    | nil => exact ⟨_, [], [], pa_nil, fun σ H R h => h, .nil, rfl, rfl⟩
    | cons x xs => simp [nmsB] at h
  | x :: as, xs, h, hh => by
    obtain ⟨p, xs, rfl, h9⟩ := nmsB_cons h
    obtain ⟨tt, cs, us, h1, h2, h3, h4, h5⟩ := pa_nms t as xs h9 fun x hx => hh x (by simp [hx])
    obtain ⟨g1, g2, V, nv, k1⟩ := hh x (by simp)
    have k2 : PySem.W.kitAny Z.K t (V :: us) = some ((x :: as).any tb) := by
      refine kitAny_cons k1 (fun hb => ?_) fun hb => ?_
      · rw [h5, List.any_cons, hb, Bool.false_or]
      · rw [List.any_cons, hb, Bool.true_or]
    rcases nv with ⟨hmc, C2, rfl⟩ | ⟨hmn, hbt, hnn, ty, rfl⟩
    · exact ⟨_, .ref C2 :: cs, .ref C2 :: us, pa_cons (pe_glob (v := .ref C2) g1 hmc rfl g2) h1 (starEach_pl rfl), fun σ H R h => h2 _ _ _ h, .cons (.own _) h3, by simp [h4], k2⟩
    · exact ⟨_, .ty ty :: cs, .type ty :: us, pa_cons (pe_bltn (v := .ty ty) g1 hmn hbt rfl hnn g2) h1 (starEach_pl rfl), fun σ H R h => h2 _ _ _ h, .cons (.ty _) h3, by simp [h4], k2⟩
/-- isinstance(y, (a1, ..)) -/
theorem pe_isT {y : Str} {as : List Str} {tb : Str → Bool} {e : Expr} (FC : ClsF X.K C) (hz : Zc (.ref C) dd oe) (hf : ∃ vs, oe.data = .fields vs) (hN : X.N[0]? = some y) (hv : Vis X.env.scope y) (h3 : (y == ("__debug__" : Str)) = false) (h4 : (y == ("__classdict__" : Str)) = false)
    (hg : Gl X "isinstance") (hm : X.mg "isinstance" = none) (hl : as.length ≤ 1000) (hh : ∀ x ∈ as, Gl X x ∧ (x == ("__debug__" : Str)) = false ∧ ∃ V, NmV X.mg x V ∧ PySem.W.kitOne X.K (.ref C) V = some (tb x)) (h : isTB y as e = true) :
    ∃ t, PE (X.suite a ((a, oe) :: pn)) e t ∧ ∀ σ H Q, σ[0]? = some (some (.ref a)) → (∀ d, dd = some d → ∃ fs, H d = some (.xd fs)) → (∀ H', Grw H H' → Q (.bl (as.any tb)) H') → t σ H Q := by
  unfold isTB at h
  split at h
  · rename_i i p1 z p2 xs j p3 p4
    simp only [Bool.and_eq_true, decide_eq_true_eq] at h
    obtain ⟨⟨rfl, rfl⟩, hx⟩ := h
    obtain ⟨tt, cs, us, k1, k2, k3, k4, k5⟩ := pa_nms (Z := X.suite a ((a, oe) :: pn)) (tb := tb) (.ref C) as xs hx hh
    refine ⟨_, pe_callB (call_isXT FC hz hf) hg hm PyProof.Rows.boot_isinstance (pa_cons (pe_var (X := X.suite a ((a, oe) :: pn)) (i := 0) hN hv h3 h4) (pa_cons (pe_tup k1) pa_nil (starEach_pl rfl)) (starEach_pl rfl)) (by decide) (by decide) (starEach_pl rfl) (starEach_any rfl), fun σ H Q hs hd hq => ?_⟩
    refine ⟨.ref a, hs, k2 _ _ _ ⟨by rw [k4]; exact Nat.le_of_lt (small1000 hl), fun p hp => ?_⟩⟩
    exact ⟨p, cs, us, _, rfl, upd_same, k3, k5, fun d e => by
      obtain ⟨fs, hd⟩ := hd d e
      exact ⟨fs, by rw [upd_ne (fun z => by rw [z, hp] at hd; cases hd)]; exact hd⟩, hq _ (.tup .refl hp)⟩
  · cases h
theorem isTB_val {y : Str} {as : List Str} {e : Expr} (h : isTB y as e = true) : valX e = true := by
  unfold isTB at h
  split at h
  · rfl
  · cases h
theorem mark_deep {A : Around} {a : Value} (h : A.handled = some a) (env : Env) : A.deeper env = ((A.mark none).deeper env).mark (some a) := by
  cases A
  simp only at h
  subst h
  rfl
theorem fnZ_mk {P : Program} {w : World} {K : PySem.W.Frag} {mg : Str → Option Value} {base : Heap} {f : Addr} {fd : FuncData} {x qual : Str} {st : Stmt} {y : Str} {as bs : List Str} {tb : Str → Bool} (F : L2.Fun K x qual st f fd) (S : FnScope [y] [y] (defScope st))
    (hb : othB y as bs (defBody st) = true) (hv : visB ((defScope st).names.lookup y) = true) (h3 : (y == ("__debug__" : Str)) = false) (h4 : (y == ("__classdict__" : Str)) = false) (hgi : giB ((defScope st).names.lookup ("isinstance" : Str)) = true) (hm : mg "isinstance" = none)
    (FC : ClsF K C) (hl : as.length ≤ 1000 ∧ bs.length ≤ 1000) (hh : ∀ z ∈ as ++ bs, giB ((defScope st).names.lookup z) = true ∧ (z == ("__debug__" : Str)) = false ∧ ∃ V, NmV mg z V ∧ PySem.W.kitOne K (.ref C) V = some (tb z)) :
    FnZ P w K mg base 1 f fd y C ((as ++ bs).any tb) := by
  obtain ⟨oc, od, kV, doc, pm, an, cdv, ct, osl, rfl, lk, hcd⟩ := F.ex
  refine ⟨fun A outer s H args p dd Q hr hot hpin hfld hz hd e0 hbd hq => ?_⟩
  have KX : K.In s.heap := e0.mod.kin.keeps fun b o e => (e0.bs b o e).1
  have lim : s.heap.NoLimit := e0.mod.nolimit.keeps fun b o e => (e0.bs b o e).1
  have hkind : ∀ z ∈ [y].zip [Value.ref p.1], (defScope st).names.lookup z.1 = some .local ∨ ((defScope st).names.lookup z.1 = some .cell ∧ ((cellsFrom (s.heap.objs.size + 1) (defScope st).names []).lookup z.1).isSome = true) := fun ⟨n, v⟩ hy => by
    rcases S.par n (List.of_mem_zip hy).1 with q | q
    · exact .inl q
    · exact .inr ⟨q, PySem.W.cellsFrom_some _ _ _ (.inl q)⟩
  refine codeAny_call_function hr.depth (KX _ _ lk) rfl S.co S.gen rfl (PySem.W.codeRec_of KX hcd) (hbd _ _ _ _ ?_)
  refine wpAny_newFunctionEnv_cells S.kind hkind fun env he s1 xx => ?_
  subst he
  refine ⟨lim.keeps xx.toInCall.keep, codeAny_func ?_⟩
  have I : Inv (L2H.cxH (fun _ _ _ _ _ _ => False) P w K mg base [y] qual (defScope st) f cdv A outer s H (fun _ _ _ => False) p) [] (L2.start [y] [V.ref p.1]) H s1 := L2H.inv_startH S hpin e0 rfl (us := [Value.ref p.1]) (.cons rfl .nil) xx
  let X0 : Cx := cxOf (fun _ _ _ _ _ _ => False) P w K mg base [y] qual (defScope st) f cdv (A.mark none) outer s H (fun _ _ _ => False)
  have eZ : (L2H.cxH (fun _ _ _ _ _ _ => False) P w K mg base [y] qual (defScope st) f cdv A outer s H (fun _ _ _ => False) p).wish (fun _ _ => False) = X0.suite p.1 [(p.1, p.2)] := by
    have e := mark_deep hot (envOfC qual (defScope st) s.heap.objs.size f cdv)
    show ({ L2H.cxH (fun _ _ _ _ _ _ => False) P w K mg base [y] qual (defScope st) f cdv A outer s H (fun _ _ _ => False) p with A := A.deeper (envOfC qual (defScope st) s.heap.objs.size f cdv), xe := fun _ _ => False } : Cx) = _
    rw [e]
    rfl
  have I2 : Inv (X0.suite p.1 [(p.1, p.2)]) [] (L2.start [y] [V.ref p.1]) H s1 := by rw [← eZ]; exact I.wish _
  have gl : ∀ {z : Str}, giB ((defScope st).names.lookup z) = true → Gl X0 z := fun {z} h => by
    show (defScope st).names.lookup z = some .globalImplicit
    unfold giB at h
    split at h
    · assumption
    · cases h
  have vis : Vis X0.env.scope y := by
    show Vis (defScope st) y
    unfold visB at hv
    split at hv
    · exact .inl (by assumption)
    · exact .inr (.inl (by assumption))
    · exact .inr (.inr (by assumption))
    · cases hv
  have hbody : ∃ t, PSs (X0.suite p.1 [(p.1, p.2)]) (defBody st) t ∧ t { nx := fun _ H' => Q .non H', rt := Q } (L2.start [y] [V.ref p.1]) H := by
    generalize defBody st = body at hb
    unfold othB at hb
    split at hb
    · rename_i c b j q1 q2 q3 e q4
      simp only [Bool.and_eq_true] at hb
      obtain ⟨⟨rfl, hc⟩, he⟩ := hb
      obtain ⟨t1, p1, a1⟩ := pe_isT (X := X0) (a := p.1) (oe := p.2) (pn := []) (dd := dd) (tb := tb) FC hz hfld rfl vis h3 h4 (gl hgi) hm hl.1 (fun z hz => ⟨gl (hh z (by simp [hz])).1, (hh z (by simp [hz])).2⟩) hc
      obtain ⟨t2, p2, a2⟩ := pe_isT (X := X0) (a := p.1) (oe := p.2) (pn := []) (dd := dd) (tb := tb) FC hz hfld rfl vis h3 h4 (gl hgi) hm hl.2 (fun z hz => ⟨gl (hh z (by simp [hz])).1, (hh z (by simp [hz])).2⟩) he
      refine ⟨_, pss_cons (ps_if (pt_val p1 (isTrue_val (isTB_val hc))) (pss_cons (ps_ret pe_bl) pss_nil) pss_nil) (pss_cons (ps_ret p2) pss_nil), ?_⟩
      refine a1 _ _ _ rfl hd fun H1 g1 => ⟨_, rfl, ?_⟩
      cases h1 : as.any tb with
      | true =>
        rw [if_pos rfl]
        have := hq H1 g1
        rw [List.any_append, h1, Bool.true_or] at this
        exact this
      | false =>
        rw [if_neg Bool.false_ne_true]
        refine a2 _ _ _ rfl (fun d e => ?_) fun H2 g2 => ?_
        · obtain ⟨fs, hd⟩ := hd d e
          exact ⟨fs, g1.keep hd⟩
        · have := hq H2 (g1.trans g2)
          rw [List.any_append, h1, Bool.false_or] at this
          exact this
    · cases hb
  obtain ⟨t, ht, hq2⟩ := hbody
  have run : wpAny (model P w) (A.deeper (envOfC qual (defScope st) s.heap.objs.size f cdv)) (execs (defBody st) (envOfC qual (defScope st) s.heap.objs.size f cdv)) (SP (X0.suite p.1 [(p.1, p.2)]) [] { nx := fun _ H' => Q .non H', rt := Q }) (fun _ _ => False) s1 := by
    rw [mark_deep hot]
    exact ht.run [] s1 _ H _ I2 hq2
  refine wpAny_mono run (fun fl s' hs => ?_) fun e s' hs => False.elim hs
  have fin : ∀ {σ' : L2.St} {H' : Hp} {v : V} {u : Value}, Inv (X0.suite p.1 [(p.1, p.2)]) [] σ' H' s' → RelV v u → Q v H' → CE outer P w H s Q u s' :=
    fun {σ' H' v u} J rv q => ⟨v, H', J.os, J.bare, J.base, J.hok, rv, q⟩
  cases fl with
  | ret u =>
    obtain ⟨v, σ', H', J, rv, q⟩ := hs
    exact fin J rv q
  | next =>
    obtain ⟨σ', H', J, q⟩ := hs
    exact fin (v := V.non) (u := Value.none) J rfl q
  | brk =>
    obtain ⟨_, _, _, q⟩ := hs
    exact False.elim q
  | cont =>
    obtain ⟨_, _, _, q⟩ := hs
    exact False.elim q
/-- f(e), e the caught exception -/
theorem he_oth {Γ : Gam} {k : Nat} {N : List Str} {sc : Sco} {W : WX} {cls : Value} {i : Option Nat} {pos : Pos} (g : Gd Γ k N sc X W) {n f : Str} {j : Nat} {tab : List (Str × Bool)} {np fp : Pos} (hz : Zc cls dd oe) (hf : ∃ vs, oe.data = .fields vs) (hi : i = some j) (h1 : N[j]? = some n) (h2 : visB (sc.names.lookup n) = true) (h3 : (n == ("__debug__" : Str)) = false) (h4 : (n == ("__classdict__" : Str)) = false)
    (hg : giB (sc.names.lookup f) = true) (hd : (f == ("__debug__" : Str)) = false) (ht : ∀ p ∈ tab, (f, p.1, p.2) ∈ Γ.xf) : HEk X a oe cls dd pn i (.Call (.Name f fp) [.Name n np] [] pos) (.oth f tab) := by
  refine he_val rfl ?_
  cases tab with
  | nil =>
    refine ⟨fun _ _ _ => False, ⟨fun pins s σ H Q I z => z.elim⟩, fun x σ H env μ H0 m Q rm en px h => ?_⟩
    simp only [evH, lookT, List.find?_nil, Option.map_none] at h
    exact h.elim
  | cons p0 tab0 =>
    obtain ⟨fa, fd0, y0, C0, m0, kp, _⟩ := g.xf _ _ _ (ht p0 (by simp))
    refine ⟨fun σ H Q => σ[j]? = some (some (.ref a)) ∧ (∀ d, dd = some d → ∃ fs, H d = some (.xd fs)) ∧ ∃ (b : Bool) (fd : FuncData) (y : Str) (C : Addr), cls = .ref C ∧ Binds X.K fd [y] [] ∧ FnZ X.prog X.w X.K X.mg X.base 1 fa fd y C b ∧ ∀ H', Grw H H' → Q (.bl b) H', ⟨fun pins s σ H Q I h => ?_⟩, fun x σ H env μ H0 m Q rm en px h => ?_⟩
    · obtain ⟨hs, hdd, b, fd, y, C, rfl, hb, F, hq⟩ := h
      have pv := pe_var (X := X.suite a ((a, oe) :: pn)) (i := j) (pos := np) (by rw [← g.hN] at h1; exact h1) (g.vis h2) h3 h4
      have pa := pa_cons pv pa_nil (starEach_pl rfl)
      refine wpAny_Call_Name_kw (ld_glob I (g.gl hg) m0 ?_ hd)
      refine PySem.W.callWith_K (h₀ := X.base) I.ok.mod.kin kp (thn (pa.run pos pins s σ H (fun vs H1 => vs = [V.ref a] ∧ H1 = H) I ⟨.ref a, hs, rfl, rfl⟩) fun us s1 hu => ?_) (starEach_pl rfl) rfl
      obtain ⟨vs, H1, I1, r, rfl, rfl⟩ := hu
      refine ⟨I1.kIn, ?_⟩
      obtain ⟨u, rfl, ru⟩ : ∃ u, us = [u] ∧ RelV (.ref a) u := by
        cases r with
        | cons r1 r2 => cases r2; exact ⟨_, rfl, r1⟩
      obtain rfl : u = Value.ref a := ru
      have P1 := I1.pin (a, oe) (List.mem_append_left _ List.mem_cons_self)
      have hpin : L2H.PinOk (X.suite a ((a, oe) :: pn)).stack H1 s1 (a, oe) := ⟨P1.1, P1.2.1, fun hm => (List.mem_cons.mp (I1.stkSub a hm)).elim P1.2.2.1 P1.2.2.2.1, P1.2.2.2.2⟩
      have hr : L2H.RoomH 1 (X.suite a ((a, oe) :: pn)).A := by
        have := (g.room.mono (j := 1) (by have := g.lev; omega))
        exact ⟨this.dp, this.un⟩
      refine wpAny_call (codeAny_mono (F.run (X.suite a ((a, oe) :: pn)).A (X.suite a ((a, oe) :: pn)).stack s1 H1 ⟨[.ref a], []⟩ (a, oe) dd Q hr rfl hpin hf hz hdd I1.env0 (hb s1 [.ref a] I1.kIn rfl) hq) fun r s' hq => ?_)
      cases r with
      | error e => exact False.elim hq
      | ok fl =>
        cases fl with
        | ret u => exact I1.after hq
        | next => exact False.elim hq
        | brk => exact False.elim hq
        | cont => exact False.elim hq
    · simp only [evH] at h
      split at h
      · rename_i b hlt
        obtain ⟨C2, e1, e2, e3⟩ := px.2
        obtain ⟨fa2, fd, y, C, m2, _, hb, m3, F⟩ := g.xf _ _ _ (ht _ (lookT_mem hlt))
        rw [m0] at m2
        cases m2
        rw [e1] at m3
        cases m3
        refine ⟨px.1 j hi, fun d hd' => ?_, b, fd, y, C2, e2, hb, F, fun H' gw => ?_⟩
        · subst hd'
          rcases e3 with ⟨_, e3⟩ | ⟨d2, fvs, e4, e5, e6⟩
          · cases e3
          · cases e4
            exact ⟨fvs, rm.same _ _ e5⟩
        · obtain ⟨H01, rm1, s1⟩ := gw.step rm
          exact h (.bl b) H' H01 m rm1 s1 (rep_bl.mpr rfl)
      · exact h.elim
end
end MI
/-! MI8: defs. -/
namespace MI
open PySem PySem.Spec PyProof.Rows L2

section
variable {K : PySem.W.Frag} {H H0 H' H0' : Hp} {m m' : List Addr} {μ μ0 μ' : Mem}
mutual
theorem rep.cut (p : ∀ (c : Nat) (a : Addr), m[c]? = some a → m'[c]? = some a) : ∀ {d : D} {v v' : V}, rep K H0 m d v → rep K H0' m' d v' → rep K H0' m d v'
  | .t x, _, _, _, h => by
    simp only [rep] at h ⊢
    exact h
  | .ref c, _, _, g, h => by
    simp only [rep] at g h ⊢
    obtain ⟨a, g1, _⟩ := g
    obtain ⟨b, h1, rfl⟩ := h
    rw [p _ _ g1] at h1
    cases h1
    exact ⟨a, g1, rfl⟩
  | .tp ds, _, _, g, h => by
    simp only [rep] at g h ⊢
    obtain ⟨a, vs, _, _, g2⟩ := g
    obtain ⟨b, ws, rfl, h1, h2⟩ := h
    exact ⟨b, ws, rfl, h1, reps.cut p g2 h2⟩
theorem reps.cut (p : ∀ (c : Nat) (a : Addr), m[c]? = some a → m'[c]? = some a) : ∀ {d : List D} {v v' : List V}, reps K H0 m d v → reps K H0' m' d v' → reps K H0' m d v'
  | [], _, _, _, h => by
    simp only [reps] at h ⊢
    exact h
  | d :: ds, _, _, g, h => by
    simp only [reps] at g h ⊢
    obtain ⟨v, r, _, g1, g2⟩ := g
    obtain ⟨w, q, rfl, h1, h2⟩ := h
    exact ⟨w, q, rfl, rep.cut p g1 h1, reps.cut p g2 h2⟩
end
theorem repK.cut {κ : Type} (p : ∀ (c : Nat) (a : Addr), m[c]? = some a → m'[c]? = some a) : ∀ {d : List (κ × D)} {v v' : List (κ × V)}, repK K H0 m d v → repK K H0' m' d v' → repK K H0' m d v'
  | [], _, _, _, h => h
  | (j, d) :: ds, _, _, g, h => by
    simp only [repK] at g h ⊢
    obtain ⟨v, r, _, g1, g2⟩ := g
    obtain ⟨w, q, rfl, h1, h2⟩ := h
    exact ⟨w, q, rfl, rep.cut p g1 h1, repK.cut p g2 h2⟩
theorem rep_isT {d : D} {v : V} (h : isT d = true) (r : rep K H0 m d v) : rep K H0 m' d v := by
  cases d with
  | t x => simp only [rep] at r ⊢; exact r
  | ref c => cases h
  | tp ds => cases h
theorem reps_isT : ∀ {ds : List D} {vs : List V}, ds.all isT = true → reps K H0 m ds vs → reps K H0 m' ds vs
  | [], _, _, r => by simp only [reps] at r ⊢; exact r
  | d :: ds, _, h, r => by
    simp only [List.all_cons, Bool.and_eq_true] at h
    simp only [reps] at r ⊢
    obtain ⟨v, q, e, r1, r2⟩ := r
    exact ⟨v, q, e, rep_isT h.1 r1, reps_isT h.2 r2⟩
theorem repK_isT {κ : Type} : ∀ {ds : List (κ × D)} {vs : List (κ × V)}, (ds.all fun p => isT p.2) = true → repK K H0 m ds vs → repK K H0 m' ds vs
  | [], _, _, r => r
  | (j, d) :: ds, _, h, r => by
    simp only [List.all_cons, Bool.and_eq_true] at h
    simp only [repK] at r ⊢
    obtain ⟨v, q, e, r1, r2⟩ := r
    exact ⟨v, q, e, rep_isT h.1 r1, repK_isT h.2 r2⟩
theorem CellOk.isT {a : Addr} {cl : Cell} (h : cellT cl = true) (r : CellOk K H H0 m a cl) : CellOk K H H0 m' a cl := by
  cases cl with
  | dead => trivial
  | lst ds => obtain ⟨h0, vs, h1, h2⟩ := r; exact ⟨h0, vs, h1, reps_isT h h2⟩
  | dct ds => obtain ⟨h0, vs, h1, h2⟩ := r; exact ⟨h0, vs, h1, repK_isT h h2⟩
  | dcT ds => obtain ⟨h0, vs, h1, h2⟩ := r; exact ⟨h0, vs, h1, repK_isT h h2⟩
  | exn fts => exact r
theorem CellOk.cut (p : ∀ (c : Nat) (a : Addr), m[c]? = some a → m'[c]? = some a) {a : Addr} {cl : Cell} (g : CellOk K H H0 m a cl) (r : CellOk K H' H0' m' a cl) : CellOk K H' H0' m a cl := by
  cases cl with
  | dead => trivial
  | lst ds => obtain ⟨_, vs, _, g2⟩ := g; obtain ⟨h0, ws, h1, h2⟩ := r; exact ⟨h0, ws, h1, g2.cut p h2⟩
  | dct ds => obtain ⟨_, vs, _, g2⟩ := g; obtain ⟨h0, ws, h1, h2⟩ := r; exact ⟨h0, ws, h1, g2.cut p h2⟩
  | dcT ds => obtain ⟨_, vs, _, g2⟩ := g; obtain ⟨h0, ws, h1, h2⟩ := r; exact ⟨h0, ws, h1, g2.cut p h2⟩
  | exn fts => exact r
/-- back to the caller's cells -/
theorem RelM.back (rm0 : RelM K H H0 m μ0) (rm : RelM K H' H0' m' μ') (s : Step H H0 m H' H0' m') (h : OkBack μ0 μ') : RelM K H' H0' m (μ'.take μ0.length) ∧ Step H H0 m H' H0' m := by
  have hle := h.1
  refine ⟨⟨rm.same, by rw [List.length_take, rm0.len]; omega, rm0.nd, fun a ha => rm.ne a (s.mem a ha), fun c a cl h1 h2 => ?_⟩, ⟨s.same, ⟨[], by simp⟩, fun _ h => .inl h, s.frame, s.frz⟩⟩
  have h2' : μ'[c]? = some cl := by
    rw [List.getElem?_take] at h2
    split at h2
    · exact h2
    · cases h2
  have r := rm.cell c a cl (s.at c a h1) h2'
  have hc : c < μ0.length := by rw [← rm0.len]; exact (List.getElem?_eq_some_iff.mp h1).1
  rcases h.2 c hc with e | ⟨cl', e, hT⟩
  · rw [h2'] at e
    exact (rm0.cell c a cl h1 e.symm).cut s.at r
  · rw [h2'] at e
    cases e
    exact r.isT hT
/-- all new cells frozen as they stand -/
def frzH (H' H0' : Hp) (m' : List Addr) (n : Nat) : Hp := open Classical in fun a => if a ∈ m'.drop n then H' a else H0' a
theorem frz_same {n : Nat} (rm : RelM K H' H0' m' μ') : Same H0' (frzH H' H0' m' n) := fun b o e => by
  unfold frzH
  split
  · exact rm.same b o e
  · exact e
theorem mem_drop_of {n c : Nat} {a : Addr} (h : m'[c]? = some a) (hn : n ≤ c) : a ∈ m'.drop n := by
  have : (m'.drop n)[c - n]? = some a := by
    rw [List.getElem?_drop, show n + (c - n) = c by omega]
    exact h
  exact List.mem_of_getElem? this
theorem frzD_ok {n : Nat} (rm : RelM K H' H0' m' μ') : ∀ (k : Nat) {d : D} {t : T} {v : V}, frzD μ' n k d = some t → rep K H0' m' d v → repT K (frzH H' H0' m' n) t v := by
  intro k
  induction k with
  | zero =>
    intro d t v h r
    unfold frzD toT at h
    split at h
    · cases h
      simp only [rep] at r
      exact r.mono (frz_same rm)
    · cases h
  | succ k ih =>
    have ihs : ∀ {ds : List D} {ts : List T} {vs : List V}, ds.mapM (frzD μ' n k) = some ts → reps K H0' m' ds vs → repTs K (frzH H' H0' m' n) ts vs := by
      intro ds
      induction ds with
      | nil =>
        intro ts vs h r
        simp only [List.mapM_nil, Option.pure_def, Option.some.injEq] at h
        subst h
        simp only [reps] at r
        simp only [repTs, r]
      | cons d ds ihd =>
        intro ts vs h r
        simp only [List.mapM_cons, Option.bind_eq_bind, Option.bind_eq_some_iff, Option.pure_def, Option.some.injEq] at h
        obtain ⟨x, h1, xs, h2, rfl⟩ := h
        simp only [reps] at r
        obtain ⟨w, q, rfl, r1, r2⟩ := r
        simp only [repTs]
        exact ⟨w, q, rfl, ih h1 r1, ihd h2 r2⟩
    have ihK : ∀ {ds : List (Key × D)} {ts : List (Key × T)} {vs : List (Key × V)}, (ds.mapM fun p => (frzD μ' n k p.2).map fun x => (p.1, x)) = some ts → repK K H0' m' ds vs → repTK K (frzH H' H0' m' n) ts vs := by
      intro ds
      induction ds with
      | nil =>
        intro ts vs h r
        simp only [List.mapM_nil, Option.pure_def, Option.some.injEq] at h
        subst h
        simp only [repK] at r
        simp only [repTK, r]
      | cons d ds ihd =>
        intro ts vs h r
        simp only [List.mapM_cons, Option.bind_eq_bind, Option.bind_eq_some_iff, Option.pure_def, Option.some.injEq, Option.map_eq_some_iff] at h
        obtain ⟨x, ⟨y, h1, rfl⟩, xs, h2, rfl⟩ := h
        simp only [repK] at r
        obtain ⟨w, q, rfl, r1, r2⟩ := r
        simp only [repTK]
        exact ⟨w, q, rfl, ih h1 r1, ihd h2 r2⟩
    have ihKT : ∀ {ds : List (List Key × D)} {ts : List (List Key × T)} {vs : List (List Key × V)}, (ds.mapM fun p => (frzD μ' n k p.2).map fun x => (p.1, x)) = some ts → repK K H0' m' ds vs → repTKT K (frzH H' H0' m' n) ts vs := by
      intro ds
      induction ds with
      | nil =>
        intro ts vs h r
        simp only [List.mapM_nil, Option.pure_def, Option.some.injEq] at h
        subst h
        simp only [repK] at r
        simp only [repTKT, r]
      | cons d ds ihd =>
        intro ts vs h r
        simp only [List.mapM_cons, Option.bind_eq_bind, Option.bind_eq_some_iff, Option.pure_def, Option.some.injEq, Option.map_eq_some_iff] at h
        obtain ⟨x, ⟨y, h1, rfl⟩, xs, h2, rfl⟩ := h
        simp only [repK] at r
        obtain ⟨w, q, rfl, r1, r2⟩ := r
        simp only [repTKT]
        exact ⟨w, q, rfl, ih h1 r1, ihd h2 r2⟩
    intro d t v h r
    unfold frzD at h
    split at h
    · cases h
      simp only [rep] at r
      exact r.mono (frz_same rm)
    · obtain ⟨ts, h1, rfl⟩ := Option.map_eq_some_iff.mp h
      simp only [rep] at r
      obtain ⟨a, vs, rfl, r1, r2⟩ := r
      simp only [repT]
      exact ⟨a, vs, rfl, frz_same rm _ _ r1, ihs h1 r2⟩
    · rename_i c
      simp only [rep] at r
      obtain ⟨a, ha, rfl⟩ := r
      split at h
      · rename_i hn
        have hm := mem_drop_of ha hn
        have fz : frzH H' H0' m' n a = H' a := if_pos hm
        split at h
        · rename_i ds hc
          obtain ⟨ts, h1, rfl⟩ := Option.map_eq_some_iff.mp h
          obtain ⟨_, vs, r1, r2⟩ := rm.ref ha hc
          simp only [repT]
          exact ⟨a, vs, rfl, by rw [fz]; exact r1, ihs h1 r2⟩
        · rename_i ds hc
          obtain ⟨ts, h1, rfl⟩ := Option.map_eq_some_iff.mp h
          obtain ⟨_, vs, r1, r2⟩ := rm.ref ha hc
          simp only [repT]
          exact ⟨a, vs, rfl, by rw [fz]; exact r1, ihK h1 r2⟩
        · rename_i ds hc
          obtain ⟨ts, h1, rfl⟩ := Option.map_eq_some_iff.mp h
          obtain ⟨_, vs, r1, r2⟩ := rm.ref ha hc
          simp only [repT]
          exact ⟨a, vs, rfl, by rw [fz]; exact r1, ihKT h1 r2⟩
        · cases h
      · cases h
theorem leave_ok {md : Md} {d : D} {v : V} {Q : VK} {E : Exn → Mem → Prop} (rm0 : RelM K H H0 m μ0) (rm : RelM K H' H0' m' μ') (s : Step H H0 m H' H0' m') (r : rep K H0' m' d v) (h : Sat (leave md μ0 d μ') (PostE K Q H H0 m) E) : Q v H' := by
  unfold leave at h
  split at h
  · rename_i hc
    obtain ⟨rb, sb⟩ := rm0.back rm s hc
    have hle : μ0.length ≤ μ'.length := by
      have := rb.len
      rw [List.length_take, rm0.len] at this
      omega
    cases md with
    | frz =>
      simp only at h
      split at h
      · rename_i t ht
        have h : PostE K Q H H0 m (.t t) (μ'.take μ0.length) := h
        refine h v H' (frzH H' H0' m' μ0.length) m ⟨fun b o e => ?_, rb.len, rb.nd, rb.ne, fun c a cl h1 h2 => ?_⟩ ⟨sb.same.trans (frz_same rm), sb.pre, sb.fresh, sb.frame, fun a ha => ?_⟩ ?_
        · unfold frzH at e
          split at e
          · exact e
          · exact rm.same b o e
        · refine (rb.cell c a cl h1 h2).mono (frz_same rm) (fun _ _ z => z) (fun _ z => z) fun z => ?_
          have hn : a ∉ m'.drop μ0.length := fun hm => by
            obtain ⟨j, hj⟩ := List.mem_iff_getElem?.mp hm
            rw [List.getElem?_drop] at hj
            have h1' := s.at c a h1
            have hlt : c < μ0.length := by rw [← rm0.len]; exact (List.getElem?_eq_some_iff.mp h1).1
            have := nd_ix rm.nd h1' hj
            omega
          show (if a ∈ m'.drop μ0.length then H' a else H0' a) = none
          rw [if_neg hn]; exact z
        · unfold frzH at ha
          split at ha
          · rename_i hm
            rcases s.fresh a (List.mem_of_mem_drop hm) with z | z
            · exact .inr (.inl z)
            · exact .inr (.inr z)
          · exact sb.frz a ha
        · simp only [rep]
          exact frzD_ok rm 4 ht r
      · exact h.elim
    | cell =>
      simp only at h
      split at h
      · rename_i c
        split at h
        · rename_i hn
          split at h
          · rename_i cl hcl
            split at h
            · rename_i hT
              have h : PostE K Q H H0 m (.ref μ0.length) (μ'.take μ0.length ++ [cl]) := h
              simp only [rep] at r
              obtain ⟨a, ha, rfl⟩ := r
              have hl : m.length = (μ'.take μ0.length).length := rb.len
              have hna : a ∉ m := fun hm => by
                obtain ⟨j, hj⟩ := List.mem_iff_getElem?.mp hm
                have hlt : j < μ0.length := by rw [← rm0.len]; exact (List.getElem?_eq_some_iff.mp hj).1
                have := nd_ix rm.nd (s.at j a hj) ha
                omega
              have at_ : ∀ (c : Nat) (b : Addr), m[c]? = some b → (m ++ [a])[c]? = some b := fun c b z => by
                rw [List.getElem?_append_left (List.getElem?_eq_some_iff.mp z).1]; exact z
              refine h (.ref a) H' H0' (m ++ [a]) ⟨rb.same, by simp [rb.len], ?_, fun b hb => ?_, fun j b cl' h1 h2 => ?_⟩ ⟨sb.same, ⟨[a], rfl⟩, fun b hb => ?_, sb.frame, sb.frz⟩ ?_
              · rw [List.nodup_append]
                exact ⟨rb.nd, by simp, fun x hx b hb => by
                  have e : b = a := by simpa using hb
                  rintro rfl
                  exact hna (by rw [← e]; exact hx)⟩
              · rcases List.mem_append.mp hb with hb | hb
                · exact rb.ne b hb
                · have e : b = a := by simpa using hb
                  subst e
                  exact rm.ne b (List.mem_of_getElem? ha)
              · by_cases hj : j < m.length
                · rw [List.getElem?_append_left hj] at h1
                  rw [List.getElem?_append_left (by rw [← hl]; exact hj)] at h2
                  exact (rb.cell j b cl' h1 h2).mono (Same.refl _) at_ (fun _ z => z) (fun z => z)
                · rw [List.getElem?_append_right (by omega)] at h1
                  rw [List.getElem?_append_right (by rw [← hl]; omega)] at h2
                  have e : j - m.length = 0 := by
                    by_cases z : j - m.length = 0
                    · exact z
                    · rw [List.getElem?_eq_none (by simp; omega)] at h1; cases h1
                  rw [e] at h1
                  rw [← hl, e] at h2
                  simp only [List.getElem?_cons_zero, Option.some.injEq] at h1 h2
                  subst h1; subst h2
                  exact (rm.ref ha hcl).isT hT
              · rcases List.mem_append.mp hb with hb | hb
                · exact .inl hb
                · have e : b = a := by simpa using hb
                  subst e
                  exact s.fresh b (List.mem_of_getElem? ha)
              · simp only [rep]
                exact ⟨a, by rw [show μ0.length = m.length from rm0.len.symm]; simp, rfl⟩
            · exact h.elim
          · exact h.elim
        · exact h.elim
      · exact h.elim
    | keep => exact h v H' H0' m' rm s r
  · exact h.elim
where
  nd_ix {N : List Addr} (hN : N.Nodup) {i j : Nat} {x : Addr} (a : N[i]? = some x) (b : N[j]? = some x) : i = j := by
    obtain ⟨h1, e1⟩ := List.getElem?_eq_some_iff.mp a
    obtain ⟨h2, e2⟩ := List.getElem?_eq_some_iff.mp b
    exact (List.getElem_inj hN).mp (e1.trans e2.symm)
end
/-! ### a def keeps what callI tells -/
structure Around0 (Γ : Gam) (P : Program) (w : World) (K : PySem.W.Frag) (mg : Str → Option Value) (base : Heap) (k : Nat) : Prop where
  call : ∀ f nm, Γ.fn f = some nm → ∃ (a : Addr) (fd : FuncData) (ps : List Str) (c : Bool), (c = true → Γ.wk = true) ∧ mg nm = some (.ref a) ∧ PySem.W.keepIn K (.ref a) = true ∧ Binds K fd ps [] ∧ FnOk P w K mg base (CXB c P w) k a fd ps (spF mg K Γ.F f)
  calls : ∀ f nm, Γ.fns f = some nm → ∃ (a : Addr) (fd : FuncData) (ps : List Str) (c : Bool), (c = true → false = true) ∧ mg nm = some (.ref a) ∧ PySem.W.keepIn K (.ref a) = true ∧ Binds K fd ps [] ∧ FnOk P w K mg base (CXB c P w) k a fd ps (spF mg K Γ.F f)
  blt : ∀ x ∈ Γ.blts, mg x = none
  glo : ∀ x t, (x, t) ∈ Γ.glo → ∃ u, mg x = some u ∧ relG t u
  cls : ∀ c ∈ Γ.cls, ClsX P w K mg base c
  sub : ∀ c d b, (c, d, b) ∈ Γ.sub → SubX K mg c d b
  xf : ∀ f c b, (f, c, b) ∈ Γ.xf → XfX P w K mg base f c b
def defSco (st : Stmt) : Sco := { defScope st with cf := fun _ => true, top := true }
theorem reps_some {K : PySem.W.Frag} {H0 : Hp} {m : List Addr} {ds : List D} {vs : List V} (r : reps K H0 m ds vs) (n : Nat) : EnvOk K H0 m (ds.map some ++ List.replicate n none) (vs.map some ++ List.replicate n none) := by
  have hl := reps_len r
  refine ⟨by simp [hl], fun i d e => ?_⟩
  by_cases hi : i < ds.length
  · rw [List.getElem?_append_left (by simpa using hi), List.getElem?_map] at e
    rw [List.getElem?_append_left (by simp [← hl, hi]), List.getElem?_map]
    cases q : ds[i]? with
    | none => rw [q] at e; cases e
    | some d' =>
      rw [q] at e
      cases e
      obtain ⟨v, v1, v2⟩ := reps_get r q
      exact ⟨v, by rw [v1]; rfl, v2⟩
  · rw [List.getElem?_append_right (by simp; omega), List.getElem?_replicate] at e
    split at e <;> cases e
theorem fn_callI {defs : Nat → Option Def} {Γ : Gam} {P : Program} {w : World} {K : PySem.W.Frag} {mg : Str → Option Value} {base : Heap} {k l f : Nat} {x qual : Str} {st : Stmt} {a : Addr} {fd : FuncData} {N ps : List Str} {d : Def}
    (hlev : 2 ≤ l) (hF : Γ.F = callI defs k) (F : L2.Fun K x qual st a fd) (S : FnScope N ps (defScope st)) (hd : defs f = some d) (har : d.ar = ps.length) (hn : d.n = N.length) (A0 : Around0 Γ P w K mg base l) (hb : VSs Γ l N (defSco st) (defBody st) d.body) :
    FnOk P w K mg base (CXB Γ.wk P w) (l + 1) a fd ps (spF mg K (callI defs (k + 1)) f) := by
  obtain ⟨oc, od, kV, doc, pm, an, cdv, ct, osl, rfl, lk, hcd⟩ := F.ex
  have hlen : ∀ vs H Q E, spF mg K (callI defs (k + 1)) f vs H Q E → vs.length = ps.length := fun vs H Q E ⟨ds, μ, H0, m, rm, r, h⟩ => by
    unfold callI at h
    rw [hd] at h
    simp only at h
    split at h
    · rename_i e
      rw [← reps_len r, e, har]
    · exact h.elim
  refine fn_of lk hcd S hlen fun A outer s H vs Q E hr hsp => ?_
  have hl := hlen _ _ _ _ hsp
  obtain ⟨ds, μ, H0, m, rm, r, h⟩ := hsp
  unfold callI at h
  rw [hd] at h
  simp only at h
  have hlds : ds.length = d.ar := by rw [reps_len r, hl, har]
  rw [if_pos hlds] at h
  have tkB : ∀ b, TakesB b (cxOf (CXB b P w) P w K mg base N qual (defScope st) a cdv A outer s H E) (fun cls d _ H => E cls d H) := fun b => by
    cases b
    · exact L2N.takes_of rfl rfl rfl rfl
    · exact L2.takes_of rfl rfl rfl rfl
  have g : Gd Γ l N (defSco st) (cxOf (CXB Γ.wk P w) P w K mg base N qual (defScope st) a cdv A outer s H E) (fun cls d _ H => E cls d H) :=
    { hN := rfl
      nd := S.nd
      hsc := rfl
      kind := S.kind
      calm := rfl
      room := hr
      tk := tkB Γ.wk
      po := passes_of rfl
      fn := fun _ _ => rfl
      call := fun f nm e => ⟨A0.call f nm e⟩
      calls := fun f nm e => ⟨A0.calls f nm e⟩
      blt := A0.blt
      glo := A0.glo
      lev := hlev
      cls := A0.cls
      sub := A0.sub
      xf := A0.xf
      stk := fun _ => ⟨rfl, rfl⟩
      pa := fun _ => L2H.passesAt_of rfl }
  obtain ⟨t, pt, at_⟩ := hb.run _ _ g
  refine ⟨t, pt, at_ (L2.start N vs) H (ds.map some ++ List.replicate (d.n - d.ar) none) μ H0 m _ rm ?_ ?_⟩
  · have e : L2.start N vs = vs.map some ++ List.replicate (d.n - d.ar) none := by
      unfold L2.start
      rw [hn, har, hl]
    rw [e]
    exact reps_some r _
  · rw [hF]
    cases eb : evSs (callI defs k) d.body (ds.map some ++ List.replicate (d.n - d.ar) none) μ with
    | none => rw [eb] at h; exact h.elim
    | some p =>
      obtain ⟨o, μ'⟩ := p
      rw [eb] at h
      intro H' H0' m' rm' s'
      cases o with
      | rt v0 => exact fun v rv => leave_ok rm rm' s' rv h
      | nx env' => exact fun σ' _ => leave_ok rm rm' s' (rep_non.mpr rfl) h
      | bk env' => exact h.elim
      | ct env' => exact h.elim
      | ex x env' =>
        intro σ' cls dd _ ex
        simp only at h
        unfold leaveX at h
        split at h
        · rename_i hc
          obtain ⟨rb, sb⟩ := rm.back rm' s' hc
          have h : PostX mg K E H H0 m x (μ'.take μ.length) := h
          exact h cls dd H' H0' m rb sb ex
        · exact h.elim
theorem fn_zero {P : Program} {w : World} {K : PySem.W.Frag} {mg : Str → Option Value} {base : Heap} {defs : Nat → Option Def} {f : Nat} {a : Addr} {fd : FuncData} {ps : List Str} {l : Nat} {CX : CXT} : FnOk P w K mg base CX l a fd ps (spF mg K (callI defs 0) f) :=
  ⟨fun vs H Q E ⟨_, _, _, _, _, _, h⟩ => h.elim, fun A outer s H args us vs Q E _ _ _ _ ⟨_, _, _, _, _, _, h⟩ => h.elim⟩
end MI
/-! MI9: the check of the small text against the model's. -/
namespace MI
open PySem PySem.Spec PyProof.Rows L2

def eqS : T → T → Bool
  | .non, .non => true
  | .bl a, .bl b => a == b
  | .int a, .int b => decide (a = b)
  | .str a, .str b => decide (a = b)
  | _, _ => false
theorem eqS_eq {a b : T} (h : eqS a b = true) : a = b := by
  unfold eqS at h
  split at h <;> first | rfl | (cases h; done) | (simp at h; rw [h])
def gloB (l : List (Str × T)) (x : Str) (t : T) : Bool := l.any fun p => decide (p.1 = x) && eqS p.2 t
theorem gloB_mem {l : List (Str × T)} {x : Str} {t : T} (h : gloB l x t = true) : (x, t) ∈ l := by
  obtain ⟨p, hp, q⟩ := List.any_eq_true.mp h
  simp only [Bool.and_eq_true, decide_eq_true_eq] at q
  obtain ⟨rfl, q⟩ := q
  rw [← eqS_eq q]
  exact hp
def clsB (l : List ClsI) (c : Str) (fs : List Str) (ini : Bool) : Bool := l.any fun x => decide (x.nm = c) && decide (x.fs = fs) && (x.ini == ini)
theorem clsB_mem {l : List ClsI} {c : Str} {fs : List Str} {ini : Bool} (h : clsB l c fs ini = true) : (⟨c, fs, ini⟩ : ClsI) ∈ l := by
  unfold clsB at h
  rw [List.any_eq_true] at h
  obtain ⟨⟨a, b, d⟩, hm, h⟩ := h
  simp only [Bool.and_eq_true, decide_eq_true_eq, beq_iff_eq] at h
  obtain ⟨⟨rfl, rfl⟩, rfl⟩ := h
  exact hm
def nmOk (x : Str) : Bool := !(x == ("__debug__" : Str)) && !(x == ("__classdict__" : Str))
variable (Γ : Sig) (N : List Str)
mutual
def chkG (sc : Sco) : Tg → Expr → Bool
  | .nm i, .Name x _ => decide (N[i]? = some x) && locS sc x
  | .tp ts, .Tuple xs _ _ => chkGs sc ts xs
  | _, _ => false
def chkGs (sc : Sco) : List Tg → List Expr → Bool
  | [], [] => true
  | t :: ts, x :: xs => chkG sc t x && chkGs sc ts xs
  | _, _ => false
end
mutual
def chkE (sc : Sco) : E → Expr → Bool
  | .var i, xx => match xx with
    | .Name x _ => decide (N[i]? = some x) && visB (sc.names.lookup x) && nmOk x
    | _ => false
  | .cst t, xx => match xx with
    | .Constant c _ _ => cstB c t
    | _ => false
  | .glo y t, xx => match xx with
    | .Name x _ => decide (x = y) && giB (sc.names.lookup x) && gloB Γ.glo x t && nmOk x
    | _ => false
  | .bin op a b, xx => match xx with
    | .BinOp x op' y _ => decide (opOf op = op') && chkE sc a x && chkE sc b y
    | _ => false
  | .neg a, xx => match xx with
    | .UnaryOp .USub x _ => chkE sc a x
    | _ => false
  | .cmp op a b, xx => match xx with
    | .Compare x [op'] [y] _ => decide (copOf op = op') && plX y && chkE sc a x && chkE sc b y
    | _ => false
  | .chn p q a b c, xx => match xx with
    | .Compare x [p', q'] [y, z] _ => decide (copOf p = p') && decide (copOf q = q') && plX z && chkE sc a x && chkE sc b y && chkE sc c z
    | _ => false
  | .and a b, xx => match xx with
    | .BoolOp .And (x :: y :: rest) pos => chkE sc a x && (match rest with | [] => chkE sc b y | _ :: _ => chkE sc b (.BoolOp .And (y :: rest) pos))
    | _ => false
  | .or a b, xx => match xx with
    | .BoolOp .Or (x :: y :: rest) pos => chkE sc a x && (match rest with | [] => chkE sc b y | _ :: _ => chkE sc b (.BoolOp .Or (y :: rest) pos))
    | _ => false
  | .not a, xx => match xx with
    | .UnaryOp .Not x _ => chkE sc a x
    | _ => false
  | .tup es, xx => match xx with
    | .Tuple xs _ _ => chkEs sc es xs
    | _ => false
  | .lst _ es, xx => match xx with
    | .List xs _ => chkEs sc es xs
    | _ => false
  | .dnew _, xx => match xx with
    | .Dict [] [] _ => true
    | _ => false
  | .dd1 a b, xx => match xx with
    | .Dict [some x] [y] _ => chkE sc a x && chkE sc b y
    | _ => false
  | .ix a b, xx => match xx with
    | .Subscript x y _ => plX y && chkE sc a x && chkE sc b y
    | _ => false
  | .slc _ a lo hi, xx => match xx with
    | .Subscript x (.Slice l h none _) _ => chkE sc a x && chkEo sc lo l && chkEo sc hi h
    | _ => false
  | .call f es, xx => match xx with
    | .Call (.Name x _) xs [] _ => decide (Γ.fn f = some x) && giB (sc.names.lookup x) && nmOk x && chkEs sc es xs
    | _ => false
  | .bfn _ b es, xx => match xx with
    | .Call (.Name x _) (x0 :: xs) [] _ => decide (x = (bfnN b).1) && decide (x ∈ Γ.blts) && giB (sc.names.lookup x) && chkEs sc es (x0 :: xs)
    | _ => false
  | .srev _ a, xx => match xx with
    | .Call (.Name x _) [y] [⟨some nm, .Constant (.bool true) _ _, _⟩] _ => decide (x = ("sorted" : Str)) && decide (nm = Str.ofString "reverse") && decide (("sorted" : Str) ∈ Γ.blts) && giB (sc.names.lookup ("sorted" : Str)) && plX y && chkE sc a y
    | _ => false
  | .sset _ a, xx => match xx with
    | .Call (.Name x _) [.Call (.Name z _) [y] [] _] [] _ => decide (x = ("sorted" : Str)) && decide (z = ("set" : Str)) && decide (("sorted" : Str) ∈ Γ.blts) && decide (("set" : Str) ∈ Γ.blts) && giB (sc.names.lookup ("sorted" : Str)) && giB (sc.names.lookup ("set" : Str)) && plX y && chkE sc a y
    | _ => false
  | .mxd mx a kk, xx => match xx with
    | .Call (.Name x _) [y] [⟨some nm, .Constant (.int k2) _ _, _⟩] _ => decide (x = (if mx = true then ("max" : Str) else "min")) && decide (nm = Str.ofString "default") && decide (k2 = kk) && decide (x ∈ Γ.blts) && giB (sc.names.lookup x) && plX y && chkE sc a y
    | _ => false
  | .isi a [kn], xx => match xx with
    | .Call (.Name x _) [y, .Name z _] [] _ => decide (x = ("isinstance" : Str)) && decide (z = Str.ofString (tyN kn)) && plX y && isK kn && decide (("isinstance" : Str) ∈ Γ.blts) && decide (Str.ofString (tyN kn) ∈ Γ.blts) &&
        giB (sc.names.lookup ("isinstance" : Str)) && giB (sc.names.lookup (Str.ofString (tyN kn))) && chkE sc a y
    | _ => false
  | .mth m o es, xx => match xx with
    | .Call (.Attribute y nm apos) xs [] pos => decide (nm = (mthI m).1) && rcvX y && (apos.endLine == pos.line) && decide (xs.length < 30) && chkE sc o y && chkEs sc es xs
    | _ => false
  | .new c fs es, xx => match xx with
    | .Call (.Name x _) (y :: ys) [] _ => decide (x = c) && decide (fs.length ≤ 9) && clsB Γ.cls c fs true && giB (sc.names.lookup c) && nmOk c && chkEs sc es (y :: ys)
    | _ => false
  | .fldv i f, xx => match xx with
    | .Attribute (.Name x _) g _ => decide (g = f) && decide (N[i]? = some x) && visB (sc.names.lookup x) && nmOk x
    | _ => false
  | .comp _ own tg it ifs e, xx => match xx with
    | .ListComp elt [⟨t, iter, cs, 0⟩] scope _ => blkC N sc.toScope scope own && tgIn (own.map (·.2)) tg && chkI sc it t iter && chkG N (blkSc sc scope) tg t && chkC (blkSc sc scope) ifs cs && chkE (blkSc sc scope) e elt
    | _ => false
  | _, _ => false
def chkEs (sc : Sco) : Es → List Expr → Bool
  | .nil, xx => match xx with
    | [] => true
    | _ => false
  | .cons e es, xx => match xx with
    | x :: xs => plX x && chkE sc e x && chkEs sc es xs
    | _ => false
def chkEo (sc : Sco) : Eo → Option Expr → Bool
  | .none, xx => match xx with
    | none => true
    | _ => false
  | .some e, xx => match xx with
    | some x => chkE sc e x
    | _ => false
def chkC (sc : Sco) : Es → List Expr → Bool
  | .nil, xx => match xx with
    | [] => true
    | _ => false
  | .cons e .nil, xx => match xx with
    | [x] => chkE sc e x
    | _ => false
  | _, _ => false
def chkI (sc : Sco) : It → Expr → Expr → Bool
  | .val e, _, x => plX x && chkE sc e x
  | .rng1 a, tt, xx => match tt, xx with
    | _, .Call (.Name f _) [x] [] _ => decide (f = ("range" : Str)) && decide (("range" : Str) ∈ Γ.blts) && giB (sc.names.lookup ("range" : Str)) && plX x && chkE sc a x
    | _, _ => false
  | .rng2 a b, tt, xx => match tt, xx with
    | _, .Call (.Name f _) [x, y] [] _ => decide (f = ("range" : Str)) && decide (("range" : Str) ∈ Γ.blts) && giB (sc.names.lookup ("range" : Str)) && plX x && plX y && chkE sc a x && chkE sc b y
    | _, _ => false
  | .enm a, tt, xx => match tt, xx with
    | .Tuple _ _ _, .Call (.Name f _) [x] [] _ => decide (f = ("enumerate" : Str)) && decide (("enumerate" : Str) ∈ Γ.blts) && giB (sc.names.lookup ("enumerate" : Str)) && plX x && chkE sc a x
    | _, _ => false
  | .zip a b, tt, xx => match tt, xx with
    | .Tuple _ _ _, .Call (.Name f _) [x, y] [] _ => decide (f = ("zip" : Str)) && decide (("zip" : Str) ∈ Γ.blts) && giB (sc.names.lookup ("zip" : Str)) && plX x && plX y && chkE sc a x && chkE sc b y
    | _, _ => false
  | .rev a, tt, xx => match tt, xx with
    | _, .Call (.Name f _) [x] [] _ => decide (f = ("reversed" : Str)) && decide (("reversed" : Str) ∈ Γ.blts) && giB (sc.names.lookup ("reversed" : Str)) && plX x && chkE sc a x
    | _, _ => false
end
/-! ### except suites: n is the clause's name, i its slot -/
def fldB (l : List ClsI) (f : Str) (cs : List Str) : Bool := cs.all fun c => l.any fun x => decide (x.nm = c) && decide (f ∈ x.fs)
theorem fldB_ok {l : List ClsI} {f : Str} {cs : List Str} (h : fldB l f cs = true) : ∀ c ∈ cs, ∃ ci ∈ l, ci.nm = c ∧ f ∈ ci.fs := fun c hc => by
  unfold fldB at h
  rw [List.all_eq_true] at h
  have h := h c hc
  rw [List.any_eq_true] at h
  obtain ⟨ci, h1, h2⟩ := h
  simp only [Bool.and_eq_true, decide_eq_true_eq] at h2
  exact ⟨ci, h1, h2.1, h2.2⟩
def tabB (l : List (Str × Str × Bool)) (c : Str) (tab : List (Str × Bool)) : Bool := tab.all fun p => decide ((p.1, c, p.2) ∈ l)
theorem tabB_ok {l : List (Str × Str × Bool)} {c : Str} {tab : List (Str × Bool)} (h : tabB l c tab = true) : ∀ p ∈ tab, (p.1, c, p.2) ∈ l := fun p hp => by
  unfold tabB at h
  rw [List.all_eq_true] at h
  simpa using h p hp
mutual
def chkH (sc : Sco) (n : Option (Str × Nat)) : HE → Expr → Bool
  | .var j, xx => match xx with
    | .Name x _ => decide (N[j]? = some x) && visB (sc.names.lookup x) && nmOk x
    | _ => false
  | .cst t, xx => match xx with
    | .Constant c _ _ => cstB c t
    | _ => false
  | .fld f cs, xx => match xx, n with
    | .Attribute (.Name x _) g _, some (y, j) => decide (x = y) && decide (g = f) && decide (N[j]? = some x) && visB (sc.names.lookup x) && nmOk x && fldB Γ.cls f cs
    | _, _ => false
  | .isi c tab, xx => match xx, n with
    | .Call (.Name f _) [.Name x _, .Name d _] [] _, some (y, j) => decide (f = ("isinstance" : Str)) && decide (x = y) && decide (d = c) && decide (N[j]? = some x) && visB (sc.names.lookup x) && nmOk x && decide (("isinstance" : Str) ∈ Γ.blts) &&
        giB (sc.names.lookup ("isinstance" : Str)) && giB (sc.names.lookup c) && nmOk c && tabB Γ.sub c tab
    | _, _ => false
  | .oth f tab, xx => match xx, n with
    | .Call (.Name g _) [.Name x _] [] _, some (y, j) => decide (g = f) && decide (x = y) && decide (N[j]? = some x) && visB (sc.names.lookup x) && nmOk x && giB (sc.names.lookup f) && nmOk f && decide (∀ p ∈ tab, (f, p.1, p.2) ∈ Γ.xf)
    | _, _ => false
  | .cmp op a b, xx => match xx with
    | .Compare x [op'] [y] _ => decide (copOf op = op') && plX y && chkH sc n a x && chkH sc n b y
    | _ => false
  | .and a b, xx => match xx with
    | .BoolOp .And [x, y] _ => chkH sc n a x && chkH sc n b y
    | _ => false
  | .or a b, xx => match xx with
    | .BoolOp .Or [x, y] _ => chkH sc n a x && chkH sc n b y
    | _ => false
  | .or3 a b c, xx => match xx with
    | .BoolOp .Or [x, y, z] _ => chkH sc n a x && chkH sc n b y && chkH sc n c z
    | _ => false
  | .not a, xx => match xx with
    | .UnaryOp .Not x _ => chkH sc n a x
    | _ => false
  | .tup es, xx => match xx with
    | .Tuple xs _ _ => chkHs sc n es xs
    | _ => false
  | .lst es, xx => match xx with
    | .List xs _ => chkHs sc n es xs
    | _ => false
def chkHs (sc : Sco) (n : Option (Str × Nat)) : HEs → List Expr → Bool
  | .nil, xx => match xx with
    | [] => true
    | _ => false
  | .cons e es, xx => match xx with
    | x :: xs => plX x && chkH sc n e x && chkHs sc n es xs
    | _ => false
end
mutual
def chkHS (sc : Sco) (n : Option (Str × Nat)) : HS → Stmt → Bool
  | .ret e, xx => match xx with
    | .Return (some x) _ => chkH Γ N sc n e x
    | _ => false
  | .asg j e, xx => match xx with
    | .Assign [.Name nm _] x _ => plX x && notLc x && decide (N[j]? = some nm) && locS sc nm && decide (n.map (·.2) ≠ some j) && chkH Γ N sc n e x
    | _ => false
  | .ife c a b, xx => match xx with
    | .If x xa xb _ => chkH Γ N sc n c x && chkHSs sc n a xa && chkHSs sc n b xb
    | _ => false
  | .pss, xx => match xx with
    | .Pass _ => true
    | _ => false
  | .unk, _ => true
def chkHSs (sc : Sco) (n : Option (Str × Nat)) : HSs → List Stmt → Bool
  | .nil, xx => match xx with
    | [] => true
    | _ => false
  | .cons s ss, xx => match xx with
    | x :: xs => chkHS sc n s x && chkHSs sc n ss xs
    | _ => false
end
mutual
def chkS (sc : Sco) : S → Stmt → Bool
  | .asg tg e, xx => match xx with
    | .Assign [t] x _ => match tg, e, t, x with
      | .nm i, .comp _ own tg it ifs e, .Name nm p, .ListComp elt [⟨t, iter, cs, 0⟩] scope lpos => decide (N[i]? = some nm) && blkC N sc.toScope scope own && tgIn (own.map (·.2)) tg && chkI Γ N sc it t iter && chkG N (blkSc sc scope) tg t && chkC Γ N (blkSc sc scope) ifs cs && chkE Γ N (blkSc sc scope) e elt &&
          ((decide (sc.names.lookup nm = some .local) && (p.line == lpos.line) && !(scope.names.any fun (n, k) => n == nm && (k == .local || k == .cell))) || (locS sc nm && decide (sc.names.lookup nm ≠ some .local)))
      | .nm i, e, .Name nm _, x => plX x && notLc x && decide (N[i]? = some nm) && locS sc nm && chkE Γ N sc e x
      | tg, e, t, x => plX x && notLc x && notTL x && chkG N sc tg t && chkE Γ N sc e x
    | _ => false
  | .setx o i e, xx => match xx with
    | .Assign [.Subscript y z _] x _ => plX x && notLc x && plX z && chkE Γ N sc o y && chkE Γ N sc i z && chkE Γ N sc e x
    | _ => false
  | .xpr e, xx => match xx with
    | .Expr x _ => plX x && notLc x && chkE Γ N sc e x
    | _ => false
  | .ret e, xx => match xx with
    | .Return (some x) _ => chkE Γ N sc e x
    | _ => false
  | .retN, xx => match xx with
    | .Return none _ => true
    | _ => false
  | .ife c a b, xx => match xx with
    | .If x y z _ => chkE Γ N sc c x && chkSs sc a y && chkSs sc b z
    | _ => false
  | .for tg it b, xx => match xx with
    | .For t iter body [] _ => chkI Γ N sc it t iter && chkG N sc tg t && chkSs sc b body
    | _ => false
  | .whl _ c b, xx => match xx with
    | .While x body [] _ => chkE Γ N sc c x && chkSs sc b body
    | _ => false
  | .brk, xx => match xx with
    | .Break _ => true
    | _ => false
  | .cnt, xx => match xx with
    | .Continue _ => true
    | _ => false
  | .pss, xx => match xx with
    | .Pass _ => true
    | _ => false
  | .unk, _ => true
  | .rse c fs es, xx => match xx with
    | .Raise (some (.Call (.Name x _) (y :: ys) [] _)) none _ => decide (x = c) && decide (fs.length ≤ 9) && clsB Γ.cls c fs true && giB (sc.names.lookup c) && nmOk c && chkEs Γ N sc es (y :: ys)
    | _ => false
  | .rsm c m, xx => match xx with
    | .Raise (some (.Call (.Name x _) [.Constant (.str m') _ _] [] _)) none _ => decide (x = c) && decide (m' = m) && clsB Γ.cls c [] false && giB (sc.names.lookup c) && nmOk c
    | _ => false
  | .tryx b c tab i h, xx => match xx with
    | .Try body [.ExceptHandler (some (.Name x _)) y (s0 :: suite) _] [] [] _ => decide (x = c) && sc.top && giB (sc.names.lookup c) && nmOk c && tabB Γ.sub c tab && !tab.isEmpty && chkSs { sc with top := false } b body && (match y, i with
      | some n, some j => decide (N[j]? = some n) && decide (sc.names.lookup n = some .local) && chkHSs Γ N sc (some (n, j)) h (s0 :: suite)
      | none, none => chkHSs Γ N sc none h (s0 :: suite)
      | _, _ => false)
    | _ => false
  | .tryr e c tab c2 m, xx => match xx with
    | .Try [.Expr x _] [.ExceptHandler (some (.Name z _)) none [.Raise (some (.Call (.Name z2 _) [.Constant (.str m') _ _] [] _)) (some (.Constant .none _ _)) _] _] [] [] _ =>
        decide (z = c) && sc.top && Γ.wk && giB (sc.names.lookup c) && nmOk c && tabB Γ.sub c tab && !tab.isEmpty && plX x && notLc x && chkE { Γ with fn := Γ.fns, wk := false } N { sc with top := false } e x && decide (z2 = c2) && decide (m' = m) && clsB Γ.cls c2 [] false && giB (sc.names.lookup c2) && nmOk c2
    | _ => false
def chkSs (sc : Sco) : Ss → List Stmt → Bool
  | .nil, xx => match xx with
    | [] => true
    | _ => false
  | .cons s ss, xx => match xx with
    | x :: xs => chkS sc s x && chkSs sc ss xs
    | _ => false
end

/-! ### it is sound -/
variable {Γ : Gam} {N : List Str} {k : Nat}
mutual
theorem sndG {sc : Sco} : ∀ (t : Tg) (x : Expr), chkG N sc t x = true → VG Γ k N sc x t
  | .nm i, x, h => by
    cases x <;> simp only [chkG, Bool.and_eq_true, decide_eq_true_eq, Bool.false_eq_true] at h
    exact vg_nm h.1 h.2
  | .tp ts, x, h => by
    cases x <;> simp only [chkG, Bool.false_eq_true] at h
    obtain ⟨h1, h2⟩ := sndGs ts _ h
    exact vg_tp h1 h2
theorem sndGs {sc : Sco} : ∀ (ts : List Tg) (xs : List Expr), chkGs N sc ts xs = true → VGs Γ k N sc xs ts ∧ xs.length = ts.length
  | [], xs, h => by
    cases xs with
    | nil => exact ⟨vgs_nil, rfl⟩
    | cons x xs => simp [chkGs] at h
  | t :: ts, xs, h => by
    cases xs with
    | nil => simp [chkGs] at h
    | cons x xs =>
      simp only [chkGs, Bool.and_eq_true] at h
      obtain ⟨h1, h2⟩ := sndGs ts xs h.2
      exact ⟨vgs_cons (sndG t x h.1) h1, by simp [h2]⟩
end
theorem nmOk_d {x : Str} (h : nmOk x = true) : (x == ("__debug__" : Str)) = false ∧ (x == ("__classdict__" : Str)) = false := by
  unfold nmOk at h
  simp only [Bool.and_eq_true, Bool.not_eq_true'] at h
  exact h
abbrev VB (Γ : Gam) (k : Nat) (N : List Str) (sc : Sco) (x : Expr) (e : E) : Prop := VE Γ k N sc x e ∧ VT Γ k N sc x e
theorem both {sc : Sco} {x : Expr} {e : E} (h : VE Γ k N sc x e) (hv : valX x = true) : VB Γ k N sc x e := ⟨h, vt_val h hv⟩
theorem boolTail {sc : Sco} {y : Expr} {rest : List Expr} {b : E} {op : BoolOp} {pos : Pos} (snd : ∀ x, chkE Γ.toSig N sc b x = true → VB Γ k N sc x b)
    (h : (match rest with | [] => chkE Γ.toSig N sc b y | _ :: _ => chkE Γ.toSig N sc b (.BoolOp op (y :: rest) pos)) = true) : VE Γ k N sc (.BoolOp op (y :: rest) pos) b := by
  cases rest with
  | nil => exact ve_one (snd y h).1
  | cons z r => exact (snd _ h).1
theorem andW {sc : Sco} : ∀ (e : E) (xs : List Expr) (pos : Pos), xs.length ≥ 2 → VT Γ k N sc (.BoolOp .And xs pos) e → True := fun _ _ _ _ _ => trivial
mutual
theorem sndE : ∀ {sc : Sco} (e : E) (x : Expr), chkE Γ.toSig N sc e x = true → VB Γ k N sc x e
  | sc, .var i, x, h => by
    simp only [chkE] at h
    split at h
    · simp only [Bool.and_eq_true, decide_eq_true_eq] at h
      exact both (ve_var h.1.1 h.1.2 (nmOk_d h.2).1 (nmOk_d h.2).2) rfl
    · cases h
  | sc, .cst t, x, h => by
    simp only [chkE] at h
    split at h
    · exact both (ve_cst h) rfl
    · cases h
  | sc, .glo y t, x, h => by
    simp only [chkE] at h
    split at h
    · simp only [Bool.and_eq_true, decide_eq_true_eq] at h
      obtain ⟨⟨⟨rfl, h2⟩, h3⟩, h4⟩ := h
      exact both (ve_glo h2 (gloB_mem h3) (nmOk_d h4).1) rfl
    · cases h
  | sc, .bin op a b, x, h => by
    simp only [chkE] at h
    split at h
    · simp only [Bool.and_eq_true, decide_eq_true_eq] at h
      obtain ⟨⟨rfl, h2⟩, h3⟩ := h
      exact both (ve_bin (sndE a _ h2).1 (sndE b _ h3).1) rfl
    · cases h
  | sc, .neg a, x, h => by
    simp only [chkE] at h
    split at h
    · exact both (ve_neg (sndE a _ h).1) rfl
    · cases h
  | sc, .cmp op a b, x, h => by
    simp only [chkE] at h
    split at h
    · simp only [Bool.and_eq_true, decide_eq_true_eq] at h
      obtain ⟨⟨⟨rfl, h2⟩, h3⟩, h4⟩ := h
      exact ⟨ve_cmp (sndE a _ h3).1 (sndE b _ h4).1 h2, vt_cmp (sndE a _ h3).1 (sndE b _ h4).1 h2⟩
    · cases h
  | sc, .chn p q a b c, x, h => by
    simp only [chkE] at h
    split at h
    · simp only [Bool.and_eq_true, decide_eq_true_eq] at h
      obtain ⟨⟨⟨⟨⟨rfl, rfl⟩, h2⟩, h3⟩, h4⟩, h5⟩ := h
      exact ⟨ve_chn (sndE a _ h3).1 (sndE b _ h4).1 (sndE c _ h5).1 h2, vt_chn (sndE a _ h3).1 (sndE b _ h4).1 (sndE c _ h5).1 h2⟩
    · cases h
  | sc, .and a b, x, h => by
    simp only [chkE] at h
    split at h
    · simp only [Bool.and_eq_true] at h
      obtain ⟨h1, h2⟩ := h
      have sa := sndE a _ h1
      rename_i y rest pos
      cases rest with
      | nil => exact ⟨ve_and sa.1 (ve_one (sndE b _ h2).1), (vw_and sa.2 (vw_and1 (sndE b _ h2).2)).vt⟩
      | cons z r => exact ⟨ve_and sa.1 (sndE b _ h2).1, (vw_and sa.2 (sndA b _ _ h2)).vt⟩
    · cases h
  | sc, .or a b, x, h => by
    simp only [chkE] at h
    split at h
    · simp only [Bool.and_eq_true] at h
      obtain ⟨h1, h2⟩ := h
      have sa := sndE a _ h1
      rename_i y rest pos
      cases rest with
      | nil => exact ⟨ve_or sa.1 (ve_one (sndE b _ h2).1), (vw_or sa.2 (vw_or1 (sndE b _ h2).2)).vt⟩
      | cons z r => exact ⟨ve_or sa.1 (sndE b _ h2).1, (vw_or sa.2 (sndO b _ _ h2)).vt⟩
    · cases h
  | sc, .not a, x, h => by
    simp only [chkE] at h
    split at h
    · have sa := sndE a _ h
      exact ⟨ve_not sa.1, vt_not sa.2⟩
    · cases h
  | sc, .ite c a b, x, h => by simp [chkE] at h
  | sc, .tup es, x, h => by
    simp only [chkE] at h
    split at h
    · exact both (ve_tup (sndEs es _ h)) rfl
    · cases h
  | sc, .lst fz es, x, h => by
    simp only [chkE] at h
    split at h
    · exact both (ve_lst (sndEs es _ h)) rfl
    · cases h
  | sc, .dnew b, x, h => by
    simp only [chkE] at h
    split at h
    · exact both ve_dnew rfl
    · cases h
  | sc, .dd1 a b, x, h => by
    simp only [chkE] at h
    split at h
    · simp only [Bool.and_eq_true] at h
      exact both (ve_dd1 (sndE a _ h.1).1 (sndE b _ h.2).1) rfl
    · cases h
  | sc, .ix a b, x, h => by
    simp only [chkE] at h
    split at h
    · simp only [Bool.and_eq_true] at h
      exact both (ve_ix (sndE a _ h.1.2).1 (sndE b _ h.2).1 h.1.1) rfl
    · cases h
  | sc, .slc fz a lo hi, x, h => by
    simp only [chkE] at h
    split at h
    · simp only [Bool.and_eq_true] at h
      exact both (ve_slc (sndE a _ h.1.1).1 (sndEo lo _ h.1.2) (sndEo hi _ h.2)) rfl
    · cases h
  | sc, .call f es, x, h => by
    simp only [chkE] at h
    split at h
    · simp only [Bool.and_eq_true, decide_eq_true_eq] at h
      obtain ⟨⟨⟨h1, h2⟩, h3⟩, h4⟩ := h
      have he := sndEs es _ h4
      rename_i nm p xs pos
      cases xs with
      | nil =>
        have e : es = .nil := by
          cases es with
          | nil => rfl
          | cons e es => simp [chkEs] at h4
        subst e
        exact both (ve_call0 h1 h2 (nmOk_d h3).1) rfl
      | cons y ys => exact both (ve_call h1 h2 (nmOk_d h3).1 he) rfl
    · cases h
  | sc, .bfn fz b es, x, h => by
    simp only [chkE] at h
    split at h
    · simp only [Bool.and_eq_true, decide_eq_true_eq] at h
      obtain ⟨⟨⟨h1, h2⟩, h3⟩, h4⟩ := h
      exact both (ve_bfn h1 h2 h3 (sndEs es _ h4)) rfl
    · cases h
  | sc, .srev fz a, x, h => by
    simp only [chkE] at h
    split at h
    · simp only [Bool.and_eq_true, decide_eq_true_eq] at h
      obtain ⟨⟨⟨⟨⟨h1, rfl⟩, h3⟩, h4⟩, h5⟩, h6⟩ := h
      exact both (ve_srev h1 h3 h4 h5 (sndE a _ h6).1) rfl
    · cases h
  | sc, .sset fz a, x, h => by
    simp only [chkE] at h
    split at h
    · simp only [Bool.and_eq_true, decide_eq_true_eq] at h
      obtain ⟨⟨⟨⟨⟨⟨⟨h1, h2⟩, h3⟩, h4⟩, h5⟩, h6⟩, h7⟩, h8⟩ := h
      exact both (ve_sset h1 h2 h3 h4 h5 h6 h7 (sndE a _ h8).1) rfl
    · cases h
  | sc, .mxd mx a kk, x, h => by
    simp only [chkE] at h
    split at h
    · simp only [Bool.and_eq_true, decide_eq_true_eq] at h
      obtain ⟨⟨⟨⟨⟨⟨h1, rfl⟩, rfl⟩, h3⟩, h4⟩, h5⟩, h6⟩ := h
      exact both (ve_mxd h1 h3 h4 h5 (sndE a _ h6).1) rfl
    · cases h
  | sc, .isi a ks, x, h => by
    cases ks with
    | nil => simp [chkE] at h
    | cons kn ks =>
      cases ks with
      | cons _ _ => simp [chkE] at h
      | nil =>
        simp only [chkE] at h
        split at h
        · simp only [Bool.and_eq_true, decide_eq_true_eq] at h
          obtain ⟨⟨⟨⟨⟨⟨⟨⟨rfl, rfl⟩, h3⟩, h4⟩, h5⟩, h6⟩, h7⟩, h8⟩, h9⟩ := h
          exact both (ve_isi h3 h4 h5 h6 h7 h8 (sndE a _ h9).1) rfl
        · cases h
  | sc, .mth m o es, x, h => by
    simp only [chkE] at h
    split at h
    · simp only [Bool.and_eq_true, decide_eq_true_eq] at h
      obtain ⟨⟨⟨⟨⟨h1, h2⟩, h3⟩, h4⟩, h5⟩, h6⟩ := h
      have he := sndEs es _ h6
      have ho := (sndE o _ h5).1
      rename_i y nm apos xs pos
      cases xs with
      | nil =>
        have e : es = .nil := by
          cases es with
          | nil => rfl
          | cons e es => simp [chkEs] at h6
        subst e
        exact both (ve_mth0 h1 h2 h3 ho) rfl
      | cons y ys => exact both (ve_mth h1 h2 h3 ho he h4) rfl
    · cases h
  | sc, .new c fs es, x, h => by
    simp only [chkE] at h
    split at h
    · simp only [Bool.and_eq_true, decide_eq_true_eq] at h
      obtain ⟨⟨⟨⟨⟨rfl, h2⟩, h3⟩, h4⟩, h5⟩, h6⟩ := h
      exact both (ve_new (clsB_mem h3) h2 h4 (nmOk_d h5).1 (sndEs _ _ h6)) rfl
    · cases h
  | sc, .fldv i f, x, h => by
    simp only [chkE] at h
    split at h
    · simp only [Bool.and_eq_true, decide_eq_true_eq] at h
      obtain ⟨⟨⟨rfl, h2⟩, h3⟩, h4⟩ := h
      exact both (ve_fldv h2 h3 (nmOk_d h4).1 (nmOk_d h4).2) rfl
    · cases h
  | sc, .comp fz own tg it ifs e, x, h => by
    simp only [chkE] at h
    split at h
    · simp only [Bool.and_eq_true] at h
      obtain ⟨⟨⟨⟨⟨h1, h2⟩, h3⟩, h4⟩, h5⟩, h6⟩ := h
      exact both (ve_comp h1 (sndI it _ _ h3) (sndG tg _ h4) (sndC ifs _ h5) (sndE e _ h6).1 h2) rfl
    · cases h
theorem sndA : ∀ {sc : Sco} (e : E) (xs : List Expr) (pos : Pos), chkE Γ.toSig N sc e (.BoolOp .And xs pos) = true → VW Γ k N sc (.BoolOp .And xs pos) e
  | sc, .and a b, xs, pos, h => by
    simp only [chkE] at h
    split at h
    · rename_i e
      cases e
      simp only [Bool.and_eq_true] at h
      obtain ⟨h1, h2⟩ := h
      have sa := (sndE a _ h1).2
      rename_i y rest
      cases rest with
      | nil => exact vw_and sa (vw_and1 (sndE b _ h2).2)
      | cons z r => exact vw_and sa (sndA b _ _ h2)
    · cases h
  | sc, .var _, xs, pos, h => by simp [chkE] at h
  | sc, .cst _, xs, pos, h => by simp [chkE] at h
  | sc, .glo _ _, xs, pos, h => by simp [chkE] at h
  | sc, .bin _ _ _, xs, pos, h => by simp [chkE] at h
  | sc, .neg _, xs, pos, h => by simp [chkE] at h
  | sc, .cmp _ _ _, xs, pos, h => by simp [chkE] at h
  | sc, .chn _ _ _ _ _, xs, pos, h => by simp [chkE] at h
  | sc, .or _ _, xs, pos, h => by simp [chkE] at h
  | sc, .not _, xs, pos, h => by simp [chkE] at h
  | sc, .ite _ _ _, xs, pos, h => by simp [chkE] at h
  | sc, .tup _, xs, pos, h => by simp [chkE] at h
  | sc, .lst _ _, xs, pos, h => by simp [chkE] at h
  | sc, .dnew _, xs, pos, h => by simp [chkE] at h
  | sc, .ix _ _, xs, pos, h => by simp [chkE] at h
  | sc, .slc _ _ _ _, xs, pos, h => by simp [chkE] at h
  | sc, .call _ _, xs, pos, h => by simp [chkE] at h
  | sc, .bfn _ _ _, xs, pos, h => by simp [chkE] at h
  | sc, .isi _ ks, xs, pos, h => by
    cases ks with
    | nil => simp [chkE] at h
    | cons a r => cases r <;> simp [chkE] at h
  | sc, .mth _ _ _, xs, pos, h => by simp [chkE] at h
  | sc, .new _ _ _, xs, pos, h => by simp [chkE] at h
  | sc, .fldv _ _, xs, pos, h => by simp [chkE] at h
  | sc, .comp _ _ _ _ _ _, xs, pos, h => by simp [chkE] at h
theorem sndO : ∀ {sc : Sco} (e : E) (xs : List Expr) (pos : Pos), chkE Γ.toSig N sc e (.BoolOp .Or xs pos) = true → VW Γ k N sc (.BoolOp .Or xs pos) e
  | sc, .or a b, xs, pos, h => by
    simp only [chkE] at h
    split at h
    · rename_i e
      cases e
      simp only [Bool.and_eq_true] at h
      obtain ⟨h1, h2⟩ := h
      have sa := (sndE a _ h1).2
      rename_i y rest
      cases rest with
      | nil => exact vw_or sa (vw_or1 (sndE b _ h2).2)
      | cons z r => exact vw_or sa (sndO b _ _ h2)
    · cases h
  | sc, .var _, xs, pos, h => by simp [chkE] at h
  | sc, .cst _, xs, pos, h => by simp [chkE] at h
  | sc, .glo _ _, xs, pos, h => by simp [chkE] at h
  | sc, .bin _ _ _, xs, pos, h => by simp [chkE] at h
  | sc, .neg _, xs, pos, h => by simp [chkE] at h
  | sc, .cmp _ _ _, xs, pos, h => by simp [chkE] at h
  | sc, .chn _ _ _ _ _, xs, pos, h => by simp [chkE] at h
  | sc, .and _ _, xs, pos, h => by simp [chkE] at h
  | sc, .not _, xs, pos, h => by simp [chkE] at h
  | sc, .ite _ _ _, xs, pos, h => by simp [chkE] at h
  | sc, .tup _, xs, pos, h => by simp [chkE] at h
  | sc, .lst _ _, xs, pos, h => by simp [chkE] at h
  | sc, .dnew _, xs, pos, h => by simp [chkE] at h
  | sc, .ix _ _, xs, pos, h => by simp [chkE] at h
  | sc, .slc _ _ _ _, xs, pos, h => by simp [chkE] at h
  | sc, .call _ _, xs, pos, h => by simp [chkE] at h
  | sc, .bfn _ _ _, xs, pos, h => by simp [chkE] at h
  | sc, .isi _ ks, xs, pos, h => by
    cases ks with
    | nil => simp [chkE] at h
    | cons a r => cases r <;> simp [chkE] at h
  | sc, .mth _ _ _, xs, pos, h => by simp [chkE] at h
  | sc, .new _ _ _, xs, pos, h => by simp [chkE] at h
  | sc, .fldv _ _, xs, pos, h => by simp [chkE] at h
  | sc, .comp _ _ _ _ _ _, xs, pos, h => by simp [chkE] at h
theorem sndEs : ∀ {sc : Sco} (es : Es) (xs : List Expr), chkEs Γ.toSig N sc es xs = true → VEs Γ k N sc xs es
  | sc, .nil, xs, h => by
    simp only [chkEs] at h
    split at h
    · exact ves_nil
    · cases h
  | sc, .cons e es, xs, h => by
    simp only [chkEs] at h
    split at h
    · simp only [Bool.and_eq_true] at h
      exact ves_cons h.1.1 (sndE e _ h.1.2).1 (sndEs es _ h.2)
    · cases h
theorem sndEo : ∀ {sc : Sco} (e : Eo) (x : Option Expr), chkEo Γ.toSig N sc e x = true → VO Γ k N sc x e
  | sc, .none, x, h => by
    simp only [chkEo] at h
    split at h
    · exact vo_none
    · cases h
  | sc, .some e, x, h => by
    simp only [chkEo] at h
    split at h
    · exact vo_some (sndE e _ h).1
    · cases h
theorem sndC : ∀ {sc : Sco} (es : Es) (xs : List Expr), chkC Γ.toSig N sc es xs = true → VC Γ k N sc xs es
  | sc, .nil, xs, h => by
    simp only [chkC] at h
    split at h
    · exact vc_nil
    · cases h
  | sc, .cons e .nil, xs, h => by
    simp only [chkC] at h
    split at h
    · exact vc_one (sndE e _ h).2
    · cases h
  | sc, .cons e (.cons _ _), xs, h => by simp [chkC] at h
theorem sndI : ∀ {sc : Sco} (it : It) (t x : Expr), chkI Γ.toSig N sc it t x = true → VI Γ k N sc t x it
  | sc, .val e, t, x, h => by
    simp only [chkI, Bool.and_eq_true] at h
    exact vi_val h.1 (sndE e _ h.2).1
  | sc, .rng1 a, t, x, h => by
    simp only [chkI] at h
    split at h
    · simp only [Bool.and_eq_true, decide_eq_true_eq] at h
      obtain ⟨⟨⟨⟨rfl, h2⟩, h3⟩, h4⟩, h5⟩ := h
      exact vi_rng1 h4 h2 h3 (sndE a _ h5).1
    · cases h
  | sc, .rng2 a b, t, x, h => by
    simp only [chkI] at h
    split at h
    · simp only [Bool.and_eq_true, decide_eq_true_eq] at h
      obtain ⟨⟨⟨⟨⟨⟨rfl, h2⟩, h3⟩, h4⟩, h5⟩, h6⟩, h7⟩ := h
      exact vi_rng2 h4 h5 h2 h3 (sndE a _ h6).1 (sndE b _ h7).1
    · cases h
  | sc, .enm a, t, x, h => by
    simp only [chkI] at h
    split at h
    · simp only [Bool.and_eq_true, decide_eq_true_eq] at h
      obtain ⟨⟨⟨⟨rfl, h2⟩, h3⟩, h4⟩, h5⟩ := h
      exact vi_enm h4 h2 h3 (sndE a _ h5).1
    · cases h
  | sc, .zip a b, t, x, h => by
    simp only [chkI] at h
    split at h
    · simp only [Bool.and_eq_true, decide_eq_true_eq] at h
      obtain ⟨⟨⟨⟨⟨⟨rfl, h2⟩, h3⟩, h4⟩, h5⟩, h6⟩, h7⟩ := h
      exact vi_zip h4 h5 h2 h3 (sndE a _ h6).1 (sndE b _ h7).1
    · cases h
  | sc, .rev a, t, x, h => by
    simp only [chkI] at h
    split at h
    · simp only [Bool.and_eq_true, decide_eq_true_eq] at h
      obtain ⟨⟨⟨⟨rfl, h2⟩, h3⟩, h4⟩, h5⟩ := h
      exact vi_rev h4 h2 h3 (sndE a _ h5).1
    · cases h
end
section
variable {X : Cx} {W : WX} {a : Addr} {oe : Obj} {cls : Value} {dd : Option Addr} {pn : List (Addr × Obj)} {i : Option Nat} {sc : Sco}
mutual
theorem sndH (g : Gd Γ k N sc X W) (hz : Zc cls dd oe) (hf : ∃ vs, oe.data = .fields vs) (n : Option (Str × Nat)) (hn : ∀ y j, n = some (y, j) → i = some j) : ∀ (e : HE) (x : Expr), chkH Γ.toSig N sc n e x = true → HEk X a oe cls dd pn i x e
  | .var j, x, h => by
    simp only [chkH] at h
    split at h
    · simp only [Bool.and_eq_true, decide_eq_true_eq] at h
      exact he_var g h.1.1 h.1.2 (nmOk_d h.2).1 (nmOk_d h.2).2
    · cases h
  | .cst t, x, h => by
    simp only [chkH] at h
    split at h
    · exact he_cst h
    · cases h
  | .fld f cs, x, h => by
    simp only [chkH] at h
    split at h
    · simp only [Bool.and_eq_true, decide_eq_true_eq] at h
      obtain ⟨⟨⟨⟨⟨rfl, rfl⟩, h3⟩, h4⟩, h5⟩, h6⟩ := h
      exact he_fld g hz hf (hn _ _ rfl) h3 h4 (nmOk_d h5).1 (nmOk_d h5).2 (fldB_ok h6)
    · cases h
  | .isi c tab, x, h => by
    simp only [chkH] at h
    split at h
    · simp only [Bool.and_eq_true, decide_eq_true_eq] at h
      obtain ⟨⟨⟨⟨⟨⟨⟨⟨⟨⟨rfl, rfl⟩, rfl⟩, h3⟩, h4⟩, h5⟩, h6⟩, h7⟩, h8⟩, h9⟩, h10⟩ := h
      exact he_isi g hz hf (hn _ _ rfl) h3 h4 (nmOk_d h5).1 (nmOk_d h5).2 h6 h7 h8 (nmOk_d h9).1 (tabB_ok h10)
    · cases h
  | .oth f tab, x, h => by
    simp only [chkH] at h
    split at h
    · simp only [Bool.and_eq_true, decide_eq_true_eq] at h
      obtain ⟨⟨⟨⟨⟨⟨⟨rfl, rfl⟩, h3⟩, h4⟩, h5⟩, h6⟩, h7⟩, h8⟩ := h
      exact he_oth g hz hf (hn _ _ rfl) h3 h4 (nmOk_d h5).1 (nmOk_d h5).2 h6 (nmOk_d h7).1 h8
    · cases h
  | .cmp op e f, x, h => by
    simp only [chkH] at h
    split at h
    · simp only [Bool.and_eq_true, decide_eq_true_eq] at h
      obtain ⟨⟨⟨rfl, h2⟩, h3⟩, h4⟩ := h
      exact he_cmp g (sndH g hz hf n hn e _ h3) (sndH g hz hf n hn f _ h4) h2
    · cases h
  | .and e f, x, h => by
    simp only [chkH] at h
    split at h
    · simp only [Bool.and_eq_true] at h
      exact he_and (sndH g hz hf n hn e _ h.1) (sndH g hz hf n hn f _ h.2)
    · cases h
  | .or e f, x, h => by
    simp only [chkH] at h
    split at h
    · simp only [Bool.and_eq_true] at h
      exact he_or (sndH g hz hf n hn e _ h.1) (sndH g hz hf n hn f _ h.2)
    · cases h
  | .or3 e f e3, x, h => by
    simp only [chkH] at h
    split at h
    · simp only [Bool.and_eq_true] at h
      exact he_or3 (sndH g hz hf n hn e _ h.1.1) (sndH g hz hf n hn f _ h.1.2) (sndH g hz hf n hn e3 _ h.2)
    · cases h
  | .not e, x, h => by
    simp only [chkH] at h
    split at h
    · exact he_not (sndH g hz hf n hn e _ h)
    · cases h
  | .tup es, x, h => by
    simp only [chkH] at h
    split at h
    · exact he_tup (sndHs g hz hf n hn es _ h)
    · cases h
  | .lst es, x, h => by
    simp only [chkH] at h
    split at h
    · exact he_lst (sndHs g hz hf n hn es _ h)
    · cases h
theorem sndHs (g : Gd Γ k N sc X W) (hz : Zc cls dd oe) (hf : ∃ vs, oe.data = .fields vs) (n : Option (Str × Nat)) (hn : ∀ y j, n = some (y, j) → i = some j) : ∀ (es : HEs) (xs : List Expr), chkHs Γ.toSig N sc n es xs = true → HEsk X a oe cls dd pn i xs es
  | .nil, xs, h => by
    simp only [chkHs] at h
    split at h
    · exact hes_nil
    · cases h
  | .cons e es, xs, h => by
    simp only [chkHs] at h
    split at h
    · simp only [Bool.and_eq_true] at h
      exact hes_cons h.1.1 (sndH g hz hf n hn e _ h.1.2) (sndHs g hz hf n hn es _ h.2)
    · cases h
end
mutual
theorem sndHS (g : Gd Γ k N sc X W) (hz : Zc cls dd oe) (hf : ∃ vs, oe.data = .fields vs) (n : Option (Str × Nat)) (hn : ∀ j, i = some j ↔ n.map (·.2) = some j) : ∀ (s : HS) (x : Stmt), chkHS Γ.toSig N sc n s x = true → HSk X a oe cls dd pn i x s
  | .ret e, x, h => by
    simp only [chkHS] at h
    split at h
    · exact hs_ret (sndH g hz hf n (fun y j z => (hn j).mpr (by rw [z]; rfl)) e _ h)
    · cases h
  | .asg j e, x, h => by
    simp only [chkHS] at h
    split at h
    · simp only [Bool.and_eq_true, decide_eq_true_eq] at h
      obtain ⟨⟨⟨⟨⟨h1, h2⟩, h3⟩, h4⟩, h5⟩, h6⟩ := h
      exact hs_asg g h1 h2 h3 h4 (fun z => h5 ((hn j).mp z)) (sndH g hz hf n (fun y j z => (hn j).mpr (by rw [z]; rfl)) e _ h6)
    · cases h
  | .ife c sa sb, x, h => by
    simp only [chkHS] at h
    split at h
    · simp only [Bool.and_eq_true] at h
      exact hs_if (sndH g hz hf n (fun y j z => (hn j).mpr (by rw [z]; rfl)) c _ h.1.1) (sndHSs0 g hz hf n hn sa _ h.1.2) (sndHSs0 g hz hf n hn sb _ h.2)
    · cases h
  | .pss, x, h => by
    simp only [chkHS] at h
    split at h
    · exact hs_pss
    · cases h
  | .unk, x, h => hs_unk
theorem sndHSs0 (g : Gd Γ k N sc X W) (hz : Zc cls dd oe) (hf : ∃ vs, oe.data = .fields vs) (n : Option (Str × Nat)) (hn : ∀ j, i = some j ↔ n.map (·.2) = some j) : ∀ (ss : HSs) (xs : List Stmt), chkHSs Γ.toSig N sc n ss xs = true → HSsk X a oe cls dd pn i xs ss
  | .nil, xs, h => by
    simp only [chkHSs] at h
    split at h
    · exact hss_nil
    · cases h
  | .cons s ss, xs, h => by
    simp only [chkHSs] at h
    split at h
    · simp only [Bool.and_eq_true] at h
      exact hss_cons (sndHS g hz hf n hn s _ h.1) (sndHSs0 g hz hf n hn ss _ h.2)
    · cases h
end
theorem sndHSs (g : Gd Γ k N sc X W) (hz : Zc cls dd oe) (hf : ∃ vs, oe.data = .fields vs) (n : Option (Str × Nat)) (ss : HSs) (xs : List Stmt) (h : chkHSs Γ.toSig N sc n ss xs = true) : HSsk X a oe cls dd pn (n.map (·.2)) xs ss := sndHSs0 g hz hf n (fun _ => Iff.rfl) ss xs h
end
mutual
theorem sndS {sc : Sco} : ∀ (s : S) (x : Stmt), chkS Γ.toSig N sc s x = true → VS Γ k N sc x s
  | .asg tg e, x, h => by
    simp only [chkS] at h
    split at h
    · split at h
      · simp only [Bool.and_eq_true, Bool.or_eq_true, decide_eq_true_eq, Bool.not_eq_true'] at h
        obtain ⟨⟨⟨⟨⟨⟨⟨h1, h2⟩, h3⟩, h4⟩, h5⟩, h6⟩, h7⟩, h8⟩ := h
        rcases h8 with ⟨⟨a1, a2⟩, a3⟩ | ⟨a1, a2⟩
        · exact vs_setLc h1 a1 a2 a3 h2 (sndI _ _ _ h4) (sndG _ _ h5) (sndC _ _ h6) (sndE _ _ h7).1 h3
        · exact vs_setLcC h1 a1 a2 (ve_comp h2 (sndI _ _ _ h4) (sndG _ _ h5) (sndC _ _ h6) (sndE _ _ h7).1 h3)
      · simp only [Bool.and_eq_true, decide_eq_true_eq] at h
        obtain ⟨⟨⟨⟨h1, h2⟩, h3⟩, h4⟩, h5⟩ := h
        exact vs_set h1 h2 h3 h4 (sndE _ _ h5).1
      · simp only [Bool.and_eq_true] at h
        obtain ⟨⟨⟨⟨h1, h2⟩, h3⟩, h4⟩, h5⟩ := h
        exact vs_asg h1 h2 h3 (sndG _ _ h4) (sndE _ _ h5).1
    · cases h
  | .setx o i e, x, h => by
    simp only [chkS] at h
    split at h
    · simp only [Bool.and_eq_true] at h
      obtain ⟨⟨⟨⟨⟨h1, h2⟩, h3⟩, h4⟩, h5⟩, h6⟩ := h
      exact vs_setx h1 h2 h3 (sndE _ _ h4).1 (sndE _ _ h5).1 (sndE _ _ h6).1
    · cases h
  | .xpr e, x, h => by
    simp only [chkS] at h
    split at h
    · simp only [Bool.and_eq_true] at h
      exact vs_xpr h.1.1 h.1.2 (sndE _ _ h.2).1
    · cases h
  | .ret e, x, h => by
    simp only [chkS] at h
    split at h
    · exact vs_ret (sndE _ _ h).1
    · cases h
  | .retN, x, h => by
    simp only [chkS] at h
    split at h
    · exact vs_retN
    · cases h
  | .ife c a b, x, h => by
    simp only [chkS] at h
    split at h
    · simp only [Bool.and_eq_true] at h
      exact vs_if (sndE _ _ h.1.1).2 (sndSs a _ h.1.2) (sndSs b _ h.2)
    · cases h
  | .for tg it b, x, h => by
    simp only [chkS] at h
    split at h
    · simp only [Bool.and_eq_true] at h
      exact vs_for (sndI _ _ _ h.1.1) (sndG _ _ h.1.2) (sndSs b _ h.2)
    · cases h
  | .whl n c b, x, h => by
    simp only [chkS] at h
    split at h
    · simp only [Bool.and_eq_true] at h
      exact vs_whl (sndE _ _ h.1).2 (sndSs b _ h.2)
    · cases h
  | .brk, x, h => by
    simp only [chkS] at h
    split at h
    · exact vs_brk
    · cases h
  | .cnt, x, h => by
    simp only [chkS] at h
    split at h
    · exact vs_cnt
    · cases h
  | .pss, x, h => by
    simp only [chkS] at h
    split at h
    · exact vs_pss
    · cases h
  | .unk, x, h => vs_unk
  | .rse c fs es, x, h => by
    simp only [chkS] at h
    split at h
    · simp only [Bool.and_eq_true, decide_eq_true_eq] at h
      obtain ⟨⟨⟨⟨⟨rfl, h2⟩, h3⟩, h4⟩, h5⟩, h6⟩ := h
      exact vs_rse (clsB_mem h3) h2 h4 (nmOk_d h5).1 (sndEs _ _ h6)
    · cases h
  | .rsm c m, x, h => by
    simp only [chkS] at h
    split at h
    · simp only [Bool.and_eq_true, decide_eq_true_eq] at h
      obtain ⟨⟨⟨⟨rfl, rfl⟩, h3⟩, h4⟩, h5⟩ := h
      exact vs_rsm (clsB_mem h3) h4 (nmOk_d h5).1
    · cases h
  | .tryx b c tab i hs, x, h => by
    simp only [chkS] at h
    split at h
    · simp only [Bool.and_eq_true, decide_eq_true_eq, Bool.not_eq_true', List.isEmpty_eq_false_iff] at h
      obtain ⟨⟨⟨⟨⟨⟨⟨rfl, h2⟩, h3⟩, h4⟩, h5⟩, h6⟩, h7⟩, h8⟩ := h
      split at h8
      · rename_i n j
        simp only [Bool.and_eq_true, decide_eq_true_eq] at h8
        exact vs_tryA h2 h8.1.1 h8.1.2 h3 (nmOk_d h4).1 (tabB_ok h5) h6 (sndSs b _ h7) fun X W g a oe cls dd pn hz hf => sndHSs g hz hf (some (n, j)) _ _ h8.2
      · exact vs_tryN h2 h3 (nmOk_d h4).1 (tabB_ok h5) h6 (sndSs b _ h7) fun X W g a oe cls dd pn hz hf => sndHSs g hz hf none _ _ h8
      · cases h8
    · cases h
  | .tryr e c tab c2 m, x, h => by
    simp only [chkS] at h
    split at h
    · simp only [Bool.and_eq_true, decide_eq_true_eq, Bool.not_eq_true', List.isEmpty_eq_false_iff] at h
      obtain ⟨⟨⟨⟨⟨⟨⟨⟨⟨⟨⟨⟨⟨⟨rfl, h2⟩, hw⟩, h3⟩, h4⟩, h5⟩, h6⟩, h7⟩, h8⟩, h9⟩, rfl⟩, rfl⟩, h10⟩, h11⟩, h12⟩ := h
      exact vs_tryr h2 hw h3 (nmOk_d h4).1 (tabB_ok h5) h6 (vs_xpr h7 h8 (sndE (Γ := Γ.strong) e _ h9).1) (clsB_mem h10) h11 (nmOk_d h12).1
    · cases h
theorem sndSs {sc : Sco} : ∀ (ss : Ss) (xs : List Stmt), chkSs Γ.toSig N sc ss xs = true → VSs Γ k N sc xs ss
  | .nil, xs, h => by
    simp only [chkSs] at h
    split at h
    · exact vss_nil
    · cases h
  | .cons s ss, xs, h => by
    simp only [chkSs] at h
    split at h
    · simp only [Bool.and_eq_true] at h
      exact vss_cons (sndS s _ h.1) (sndSs ss _ h.2)
    · cases h
end
end MI
/-! MI10: a program's table of defs, and the law's end. -/
namespace MI
open PySem PySem.Spec PyProof.Rows L2

structure Ent where
  nm : Str
  st : Stmt
  N : List Str
  ps : List Str
  d : Def
def sigOf (tbl : List Ent) (blts : List Str) (glo : List (Str × T)) (cls : List ClsI) (sub xf : List (Str × Str × Bool)) : Sig := ⟨fun f => (tbl[f]?).map (·.nm), blts, glo, cls, sub, xf, false, fun _ => none⟩
def defsOf (tbl : List Ent) : Nat → Option Def := fun f => (tbl[f]?).map (·.d)
structure EntOk (Sg : Sig) (e : Ent) : Prop where
  sc : FnScope e.N e.ps (defScope e.st)
  ar : e.d.ar = e.ps.length
  n : e.d.n = e.N.length
  chk : chkSs Sg e.N (defSco e.st) e.d.body (defBody e.st) = true
structure EntAt (K : PySem.W.Frag) (mg : Str → Option Value) (e : Ent) : Prop where
  at_ : ∃ a fd, L2.Fun K e.nm e.nm e.st a fd ∧ mg e.nm = some (.ref a) ∧ ∀ us : List Value, us.length = e.ps.length → bindArgs fd ⟨us, []⟩ = pure (e.ps.zip us)
theorem ent_mk {K : PySem.W.Frag} {h : Heap} {mg : Str → Option Value} (X : K.In h) (G : h.Ns mainGlobals mg) {e : Ent} {f : Addr} {oc kV dc pm cd ct : Value} {od an : Option Addr} {sl : Array (Option Value)}
    (a : PySem.W.nsIn K mainGlobals e.nm = some (some (.ref f))) (l : K.lookup f = some ⟨oc, od, .func (PySem.W.fnOf e.nm e.nm (defArgs e.st) (defBody e.st) (defScope e.st) .none kV dc pm an cd ct), sl⟩)
    (c : PySem.W.codeIn K cd e.nm = true) (k : PySem.W.keepIn K (.ref f) = true)
    (hb : ∀ (kV doc pm : Value) (an : Option Addr) (cdv ct : Value) (us : List Value), us.length = e.ps.length → bindArgs (PySem.W.fnOf e.nm e.nm (defArgs e.st) (defBody e.st) (defScope e.st) .none kV doc pm an cdv ct) ⟨us, []⟩ = pure (e.ps.zip us)) : EntAt K mg e := by
  have F := fun_mk (st := e.st) l c k
  exact ⟨_, _, F, PySem.W.mg_of X G a, hb kV dc pm an cd ct⟩
/-- own: a def that may let out exceptions with a context; wks: all of them -/
def sigB (S : Sig) (wks : List Nat) (own : Bool) : Sig := { S with fn := fun f => if own || !wks.contains f then S.fn f else none, fns := fun f => if wks.contains f then none else S.fn f, wk := own }
theorem tab_ok {tbl : List Ent} {blts : List Str} {glo : List (Str × T)} {cls : List ClsI} {sub xf : List (Str × Str × Bool)} {wks : List Nat} {P : Program} {w : World} {K : PySem.W.Frag} {mg : Str → Option Value} {base : Heap} (ok : ∀ i e, tbl[i]? = some e → EntOk (sigB (sigOf tbl blts glo cls sub xf) wks (wks.contains i)) e) (at_ : ∀ e ∈ tbl, EntAt K mg e)
    (hb : ∀ x ∈ blts, mg x = none) (hg : ∀ x t, (x, t) ∈ glo → ∃ u, mg x = some u ∧ relG t u) (hc : ∀ c ∈ cls, ClsX P w K mg base c) (hs : ∀ c d b, (c, d, b) ∈ sub → SubX K mg c d b) (hx : ∀ f c b, (f, c, b) ∈ xf → XfX P w K mg base f c b) : ∀ (k f : Nat) (e : Ent) (a : Addr) (fd : FuncData), tbl[f]? = some e → L2.Fun K e.nm e.nm e.st a fd →
      FnOk P w K mg base (CXB (wks.contains f) P w) (k + 2) a fd e.ps (spF mg K (callI (defsOf tbl) k) f) := by
  intro k
  induction k with
  | zero => exact fun f e a fd _ _ => fn_zero
  | succ k ih =>
    intro f e a fd he F
    have o := ok f e he
    let Γ : Gam := { sigB (sigOf tbl blts glo cls sub xf) wks (wks.contains f) with F := callI (defsOf tbl) k }
    have key : ∀ g nm, (sigOf tbl blts glo cls sub xf).fn g = some nm → ∃ (a : Addr) (fd : FuncData) (ps : List Str), mg nm = some (.ref a) ∧ PySem.W.keepIn K (.ref a) = true ∧ Binds K fd ps [] ∧ FnOk P w K mg base (CXB (wks.contains g) P w) (k + 2) a fd ps (spF mg K (callI (defsOf tbl) k) g) := fun g nm hn => by
      have hn : (tbl[g]?).map (·.nm) = some nm := hn
      obtain ⟨e', h1, rfl⟩ := Option.map_eq_some_iff.mp hn
      obtain ⟨a', fd', F', m', b'⟩ := (at_ e' (List.mem_of_getElem? h1)).at_
      exact ⟨a', fd', e'.ps, m', F'.kp, .all b', ih g e' a' fd' h1 F'⟩
    have A1 : ∀ g nm, Γ.fn g = some nm → ∃ (a : Addr) (fd : FuncData) (ps : List Str) (c : Bool), (c = true → Γ.wk = true) ∧ mg nm = some (.ref a) ∧ PySem.W.keepIn K (.ref a) = true ∧ Binds K fd ps [] ∧ FnOk P w K mg base (CXB c P w) (k + 2) a fd ps (spF mg K Γ.F g) := fun g nm hn => by
      have hn : (if wks.contains f || !wks.contains g then (sigOf tbl blts glo cls sub xf).fn g else none) = some nm := hn
      split at hn
      · rename_i hw
        obtain ⟨a', fd', ps', h1, h2, h3, h4⟩ := key g nm hn
        refine ⟨a', fd', ps', wks.contains g, fun hc => ?_, h1, h2, h3, h4⟩
        show wks.contains f = true
        rw [hc] at hw
        simpa using hw
      · cases hn
    have A2 : ∀ g nm, Γ.fns g = some nm → ∃ (a : Addr) (fd : FuncData) (ps : List Str) (c : Bool), (c = true → false = true) ∧ mg nm = some (.ref a) ∧ PySem.W.keepIn K (.ref a) = true ∧ Binds K fd ps [] ∧ FnOk P w K mg base (CXB c P w) (k + 2) a fd ps (spF mg K Γ.F g) := fun g nm hn => by
      have hn : (if wks.contains g then none else (sigOf tbl blts glo cls sub xf).fn g) = some nm := hn
      split at hn
      · cases hn
      · rename_i hw
        obtain ⟨a', fd', ps', h1, h2, h3, h4⟩ := key g nm hn
        exact ⟨a', fd', ps', wks.contains g, fun hc => absurd hc hw, h1, h2, h3, h4⟩
    have A0 : Around0 Γ P w K mg base (k + 2) := ⟨A1, A2, hb, hg, hc, hs, hx⟩
    exact fn_callI (Γ := Γ) (defs := defsOf tbl) (d := e.d) (by omega) rfl F o.sc (by unfold defsOf; rw [he]; rfl) o.ar o.n A0 (sndSs (Γ := Γ) (k := k + 2) e.d.body _ o.chk)
/-! ### classes of exceptions -/
def iniS (st : Stmt) : Stmt := match st with
  | .ClassDef _ _ _ body _ _ _ _ _ _ _ => body.getD 0 (.Pass ⟨0, 0, 0, 0⟩)
  | s => s
def iniB (slf : Str) (fs : List Str) (b : List Stmt) : Bool := match fs, b with
  | [f], [.Assign [.Attribute (.Name s _) g _] (.Name h _) _] => decide (s = slf) && decide (g = f) && decide (h = f)
  | [f, f'], [.Assign [.Attribute (.Name s _) g _] (.Name h _) _, .Assign [.Attribute (.Name s' _) g' _] (.Name h' _) _] => decide (s = slf) && decide (g = f) && decide (h = f) && decide (s' = slf) && decide (g' = f') && decide (h' = f')
  | _, _ => false
def visA (sc : Scope) (l : List Str) : Bool := l.all fun x => (match sc.names.lookup x with
  | some .local => true | some .cell => true | some .free => true
  | _ => false) && nmOk x
theorem visA_ok {sc : Scope} {l : List Str} (h : visA sc l = true) : ∀ x ∈ l, Vis sc x ∧ (x == ("__debug__" : Str)) = false ∧ (x == ("__classdict__" : Str)) = false := fun x hx => by
  unfold visA at h
  rw [List.all_eq_true] at h
  have h := h x hx
  rw [Bool.and_eq_true] at h
  refine ⟨?_, nmOk_d h.2⟩
  have h1 := h.1
  split at h1
  · exact .inl (by assumption)
  · exact .inr (.inl (by assumption))
  · exact .inr (.inr (by assumption))
  · cases h1
theorem ini_fn {CX : CXT} {P : Program} {w : World} {K : PySem.W.Frag} {mg : Str → Option Value} {base : Heap} {fI C : Addr} {qual slf : Str} {st : Stmt} {fs : List Str} {kV doc pm cdv ct oc : Value} {an od : Option Addr} {osl : Array (Option Value)} (hb : iniB slf fs (defBody st) = true)
    (S : FnScope (slf :: fs) (slf :: fs) (defScope st)) (hv : visA (defScope st) (slf :: fs) = true) (lk : K.lookup fI = some ⟨oc, od, .func (PySem.W.fnOf "__init__" qual (defArgs st) (defBody st) (defScope st) .none kV doc pm an cdv ct), osl⟩) (hcd : PySem.W.codeIn K cdv qual = true) :
    FnOk P w K mg base CX 1 fI (PySem.W.fnOf "__init__" qual (defArgs st) (defBody st) (defScope st) .none kV doc pm an cdv ct) (slf :: fs) (spIni K C fs) := by
  have hv2 := visA_ok hv
  clear hv
  unfold iniB at hb
  split at hb
  · rename_i f s _ g _ h _ _ e
    simp only [Bool.and_eq_true, decide_eq_true_eq] at hb
    obtain ⟨⟨rfl, rfl⟩, rfl⟩ := hb
    rw [e] at lk ⊢
    obtain ⟨a1, a2, a3⟩ := hv2 _ List.mem_cons_self
    obtain ⟨b1, b2, b3⟩ := hv2 _ (List.mem_cons_of_mem _ List.mem_cons_self)
    exact fn_ini1 lk hcd S a1 b1 a2 b2 a3 b3
  · rename_i f f' s _ g _ h _ _ s' _ g' _ h' _ _ e
    simp only [Bool.and_eq_true, decide_eq_true_eq] at hb
    obtain ⟨⟨⟨⟨⟨rfl, rfl⟩, rfl⟩, rfl⟩, rfl⟩, rfl⟩ := hb
    rw [e] at lk ⊢
    obtain ⟨a1, a2, a3⟩ := hv2 _ List.mem_cons_self
    obtain ⟨b1, b2, b3⟩ := hv2 _ (List.mem_cons_of_mem _ List.mem_cons_self)
    obtain ⟨d1, d2, d3⟩ := hv2 _ (List.mem_cons_of_mem _ (List.mem_cons_of_mem _ List.mem_cons_self))
    exact fn_ini2 lk hcd S a1 b1 d1 a2 b2 d2 a3 b3 d3
  · cases hb
theorem cls_ini {P : Program} {w : World} {K : PySem.W.Frag} {mg : Str → Option Value} {base : Heap} {C fI : Addr} {nm qual slf : Str} {st : Stmt} {fs : List Str} {kV doc pm cdv ct oc : Value} {an od : Option Addr} {osl : Array (Option Value)}
    {cn q : Str} {N : Addr} {bs bm : List Value} {sn : List Str} {sub : List Value} {ab : Bool} {col : Option Bool} {dd : Option Addr} {k0 k1 k2 k3 k5 : Option Value} (hm : mg nm = some (.ref C)) (F : ClsF K C) (hf : ∀ f ∈ fs, PySem.W.findIn K (.ref C) f = some none)
    (lc : K.lookup C = some (excClassObj cn q C N bs bm true sn sub ab col dd k0 k1 k2 k3 k5 "ValueError.__new__")) (rv : PySem.HandSPX.refsVE bm = true) (sa : PySem.W.findIn K (.ref C) "__setattr__" = some (some (.builtin "object.__setattr__")))
    (tC : PySem.W.typeIn K (.ref C) = some (.type "type")) (kC : PySem.W.keepIn K (.ref C) = true) (iI : PySem.W.findIn K (.ref C) "__init__" = some (some (.ref fI))) (tI : PySem.W.typeIn K (.ref fI) = some (.type "function"))
    (hb : iniB slf fs (defBody st) = true) (S : FnScope (slf :: fs) (slf :: fs) (defScope st)) (hv : visA (defScope st) (slf :: fs) = true)
    (lk : K.lookup fI = some ⟨oc, od, .func (PySem.W.fnOf "__init__" qual (defArgs st) (defBody st) (defScope st) .none kV doc pm an cdv ct), osl⟩) (hcd : PySem.W.codeIn K cdv qual = true)
    (hbi : ∀ (kV doc pm : Value) (an : Option Addr) (cdv ct : Value) (us : List Value), us.length = (slf :: fs).length → bindArgs (PySem.W.fnOf "__init__" qual (defArgs st) (defBody st) (defScope st) .none kV doc pm an cdv ct) ⟨us, []⟩ = pure ((slf :: fs).zip us)) : ClsX P w K mg base ⟨nm, fs, true⟩ := by
  refine ⟨C, hm, F, hf, ?_⟩
  rw [if_pos rfl]
  exact ⟨⟨⟨_, _, _, _, _, _, _, _, _, _, _, _, _, _, _, lc, rv⟩, sa, F.ex, tC, kC⟩, fI, _, slf, iI, tI, .all (hbi kV doc pm an cdv ct), ini_fn hb S hv lk hcd⟩
theorem cls_own {P : Program} {w : World} {K : PySem.W.Frag} {mg : Str → Option Value} {base : Heap} {C : Addr} {nm : Str} (hm : mg nm = some (.ref C)) (F : ClsF K C) (q : PySem.W.excIn K C veL "ValueError.__new__" = true) (tC : PySem.W.typeIn K (.ref C) = some (.type "type")) (kC : PySem.W.keepIn K (.ref C) = true) :
    ClsX P w K mg base ⟨nm, [], false⟩ := by
  refine ⟨C, hm, F, fun f hf => (by cases hf), ?_⟩
  rw [if_neg (show ¬ (false = true) by decide)]
  exact ⟨q, kC, tC⟩
/-- the class C, as a thing that is asked for -/
structure AskC (K : PySem.W.Frag) (C : Addr) : Prop where
  cl : PySem.W.isClsIn K C = true
  ty : PySem.W.typeIn K (.ref C) = some (.type "type")
  ex : PySem.W.subIn K (.ref C) (.type "BaseException") = some true
  me : PySem.W.subIn K (.ref C) (.ref C) = some true
theorem ask_kit {K : PySem.W.Frag} {C D : Addr} {b : Bool} (A : AskC K D) (h : PySem.W.subIn K (.ref C) (.ref D) = some b) : PySem.W.kitCls K (.ref C) (.ref D) = some b := by
  have e : ((PySem.W.clsIn K D).isSome && PySem.W.typeIn K (.ref D) == some (.type "type")) = true := by
    rw [A.ty]
    have := A.cl
    unfold PySem.W.isClsIn at this
    rw [this]
    rfl
  show (if ((PySem.W.clsIn K D).isSome && PySem.W.typeIn K (.ref D) == some (.type "type")) = true then PySem.W.subIn K (.ref C) (.ref D) else none) = some b
  rw [if_pos e]
  exact h
theorem ask_one {K : PySem.W.Frag} {C D : Addr} {b : Bool} (A : AskC K D) (h : PySem.W.subIn K (.ref C) (.ref D) = some b) : PySem.W.exmOne K (.ref C) (.ref D) = some b ∧ PySem.W.kitOne K (.ref C) (.ref D) = some b := by
  have k := ask_kit A h
  constructor
  · unfold PySem.W.exmOne
    rw [A.ex, if_pos (by rfl)]
    exact k
  · unfold PySem.W.kitOne
    split
    · rename_i e
      have e : C = D := Value.ref.inj (beq_iff_eq.mp e)
      subst e
      rw [A.me] at h
      cases h
      rfl
    · exact k
theorem ask_ve {K : PySem.W.Frag} {C : Addr} {b : Bool} (h : PySem.W.subIn K (.ref C) (.type "ValueError") = some b) (h2 : PySem.W.subIn K (.type "ValueError") (.type "BaseException") = some true) : PySem.W.exmOne K (.ref C) (.type "ValueError") = some b ∧ PySem.W.kitOne K (.ref C) (.type "ValueError") = some b := by
  have k : PySem.W.kitCls K (.ref C) (.type "ValueError") = some b := by
    show (if PySem.W.kitMeta "ValueError" = true then PySem.W.subIn K (.ref C) (.type "ValueError") else none) = some b
    rw [if_pos (show PySem.W.kitMeta "ValueError" = true by decide +kernel)]
    exact h
  constructor
  · unfold PySem.W.exmOne
    rw [h2, if_pos (by rfl)]
    exact k
  · unfold PySem.W.kitOne
    split
    · rename_i e
      cases beq_iff_eq.mp e
    · exact k
/-! ### a def that is handed the exception -/
def xfB (sub : List (Str × Str × Bool)) (c : Str) (b : Bool) (y : Str) (as bs : List Str) (st : Stmt) : Bool :=
  othB y as bs (defBody st) && visB ((defScope st).names.lookup y) && nmOk y && giB ((defScope st).names.lookup ("isinstance" : Str)) && decide (as.length ≤ 1000) && decide (bs.length ≤ 1000) &&
    ((as ++ bs).all fun z => giB ((defScope st).names.lookup z) && nmOk z && decide ((c, z, decide ((c, z, true) ∈ sub)) ∈ sub)) && ((as ++ bs).any fun z => decide ((c, z, true) ∈ sub)) == b
theorem xf_mk {P : Program} {w : World} {K : PySem.W.Frag} {h : Heap} {mg : Str → Option Value} {base : Heap} {sub : List (Str × Str × Bool)} (X : K.In h) (G : h.Ns mainGlobals mg) (hs : ∀ c d b, (c, d, b) ∈ sub → SubX K mg c d b) {nm c : Str} {st : Stmt} {y : Str} {as bs : List Str} {b : Bool} {C f : Addr} {oc kV dc pm cd ct : Value} {od an : Option Addr} {sl : Array (Option Value)}
    (a : PySem.W.nsIn K mainGlobals nm = some (some (.ref f))) (l : K.lookup f = some ⟨oc, od, .func (PySem.W.fnOf nm nm (defArgs st) (defBody st) (defScope st) .none kV dc pm an cd ct), sl⟩)
    (cc : PySem.W.codeIn K cd nm = true) (k : PySem.W.keepIn K (.ref f) = true)
    (hb : ∀ (kV doc pm : Value) (an : Option Addr) (cdv ct : Value) (us : List Value), us.length = [y].length → bindArgs (PySem.W.fnOf nm nm (defArgs st) (defBody st) (defScope st) .none kV doc pm an cdv ct) ⟨us, []⟩ = pure ([y].zip us))
    (S : FnScope [y] [y] (defScope st)) (hm : mg "isinstance" = none) (hc : mg c = some (.ref C)) (FC : ClsF K C) (chk : xfB sub c b y as bs st = true) : XfX P w K mg base nm c b := by
  have F := fun_mk (st := st) l cc k
  unfold xfB at chk
  simp only [Bool.and_eq_true, decide_eq_true_eq, beq_iff_eq] at chk
  obtain ⟨⟨⟨⟨⟨⟨⟨h1, h2⟩, h3⟩, h4⟩, h5⟩, h6⟩, h7⟩, h8⟩ := chk
  rw [List.all_eq_true] at h7
  refine ⟨f, _, y, C, PySem.W.mg_of X G a, k, .all (hb kV dc pm an cd ct), hc, ?_⟩
  rw [← h8]
  refine fnZ_mk F S h1 h2 (nmOk_d h3).1 (nmOk_d h3).2 h4 hm FC ⟨h5, h6⟩ fun z hz => ?_
  have := h7 z hz
  simp only [Bool.and_eq_true, decide_eq_true_eq] at this
  obtain ⟨⟨g1, g2⟩, g3⟩ := this
  obtain ⟨C2, V, m2, _, nv, _, kk⟩ := hs _ _ _ g3
  rw [hc] at m2
  cases m2
  exact ⟨g1, (nmOk_d g2).1, V, nv, kk⟩
def spLaw (K : PySem.W.Frag) : Sp := fun vs H Q _ => ∃ (a : Addr) (ns : List Int), vs = [.ref a] ∧ SqL K H a (ns.map V.int) ∧ ns.length ≤ 63 ∧ ∀ H', Q (.bl true) H'
theorem law_imp {defs : Nat → Option Def} {k f : Nat} {mg : Str → Option Value} {K : PySem.W.Frag} (h : ∀ ns : List Int, ns.length ≤ 63 → ∃ μ, callI defs k f [.t (.scr ns)] [] = .ok (.t (.bl true)) μ) : ∀ vs H Q E, spLaw K vs H Q E → spF mg K (callI defs k) f vs H Q E := by
  rintro vs H Q E ⟨a, ns, rfl, hs, hl, q⟩
  obtain ⟨μ, e⟩ := h ns hl
  refine ⟨[.t (.scr ns)], [], H, [], ⟨Same.refl _, rfl, List.nodup_nil, fun a z => by simp at z, fun c a cl z => by simp at z⟩, ?_, ?_⟩
  · simp only [reps, rep, repT]
    exact ⟨.ref a, [], rfl, ⟨a, rfl, hs⟩, rfl⟩
  · rw [e]
    intro v H' H0' m' _ _ r
    rw [rep_bl.mp r]
    exact q H'
theorem law_tab {tbl : List Ent} {blts : List Str} {glo : List (Str × T)} {cls : List ClsI} {sub xf : List (Str × Str × Bool)} {wks : List Nat} {P : Program} {w : World} {K : PySem.W.Frag} {mg : Str → Option Value} {fa : Addr} {k f : Nat} {e : Ent} {x : Str} (ok : ∀ i e, tbl[i]? = some e → EntOk (sigB (sigOf tbl blts glo cls sub xf) wks (wks.contains i)) e) (at_ : ∀ e ∈ tbl, EntAt K mg e)
    (hb : ∀ x ∈ blts, mg x = none) (hg : ∀ x t, (x, t) ∈ glo → ∃ u, mg x = some u ∧ relG t u) (hc : ∀ base : Heap, ∀ c ∈ cls, ClsX P w K mg base c) (hs : ∀ c d b, (c, d, b) ∈ sub → SubX K mg c d b) (hx : ∀ (base : Heap), ∀ f c b, (f, c, b) ∈ xf → XfX P w K mg base f c b) (he : tbl[f]? = some e) (hps : e.ps = [x]) (hfa : mg e.nm = some (.ref fa)) (h : ∀ ns : List Int, ns.length ≤ 63 → ∃ μ, callI (defsOf tbl) k f [.t (.scr ns)] [] = .ok (.t (.bl true)) μ) :
    ∃ fd : FuncData, (∀ (s : Shared) (u : Value), BindsTo s fd ⟨[u], []⟩ [(x, u)]) ∧ ∀ base : Heap, FnOk P w K mg base (CXB (wks.contains f) P w) (k + 2) fa fd [x] (spLaw K) := by
  obtain ⟨a, fd, F, m, b⟩ := (at_ e (List.mem_of_getElem? he)).at_
  rw [hfa] at m
  cases m
  rw [hps] at b
  refine ⟨fd, fun s u => .of_eq (b [u] rfl), fun base => ?_⟩
  have T := tab_ok (P := P) (w := w) (base := base) ok at_ hb hg (hc base) hs (hx base) k f e fa fd he F
  rw [hps] at T
  exact T.imp (law_imp h)
end MI
/-! MIP: reasoning about the interpreter. -/
namespace MI
open PySem PySem.Spec PyProof.Rows L2

noncomputable def fin (md : Md) (μ0 : Mem) : Option (Out × Mem) → R D
  | some (.rt x, μ') => leave md μ0 x μ'
  | some (.nx _, μ') => leave md μ0 (.t .non) μ'
  | some (.ex x _, μ') => leaveX μ0 x μ'
  | _ => .no
theorem callI_succ {defs : Nat → Option Def} {k f : Nat} {ds : List D} {μ : Mem} {d : Def} (h : defs f = some d) (hl : ds.length = d.ar) : callI defs (k + 1) f ds μ = fin d.md μ (evSs (callI defs k) d.body (ds.map some ++ List.replicate (d.n - d.ar) none) μ) := by
  unfold callI
  rw [h]
  simp only [if_pos hl]
  unfold fin
  rfl
theorem callI_at {defs : Nat → Option Def} {k n f : Nat} (h : n + 1 ≤ k) : ∃ k', k = k' + 1 ∧ n ≤ k' := ⟨k - 1, by omega, by omega⟩
section
variable {α β : Type}
theorem bnd_ap (x : M α) (f : α → M β) (μ : Mem) : bnd x f μ = match x μ with
  | .ok a μ' => f a μ'
  | .ex e μ' => .ex e μ'
  | .no => .no := rfl
theorem pur_ap (a : α) (μ : Mem) : pur a μ = .ok a μ := rfl
theorem lift_ap (x : M α) (env : Envv) (f : α → MO) (μ : Mem) : lift x env f μ = match x μ with
  | .ok a μ' => f a μ'
  | .ex e μ' => some (.ex e env, μ')
  | .no => none := rfl
theorem outO_ap (o : Out) (μ : Mem) : outO o μ = some (o, μ) := rfl
theorem andThen_ap (x : MO) (f : Envv → MO) (μ : Mem) : andThen x f μ = match x μ with
  | some (.nx env, μ') => f env μ'
  | some (o, μ') => some (o, μ')
  | none => none := rfl
theorem toB_ap (b : Bool) (μ : Mem) : toB (.t (.bl b)) μ = .ok b μ := rfl
theorem ite_ap {c : Prop} [Decidable c] (x y : M α) (μ : Mem) : (if c then x else y) μ = if c then x μ else y μ := by split <;> rfl
theorem ite_apO {c : Prop} [Decidable c] (x y : MO) (μ : Mem) : (if c then x else y) μ = if c then x μ else y μ := by split <;> rfl
end
/-! ### numbers -/
theorem bI_add (i j : Int) : binI .add i j = some (i + j) := rfl
theorem bI_sub (i j : Int) : binI .sub i j = some (i - j) := rfl
theorem bI_mulr (i j : Int) (h1 : -18446744073709551616 < j) (h2 : j < 18446744073709551616) : binI .mul i j = some (i * j) := by
  have h : (inR i || inR j) = true := by
    simp only [inR, Bool.or_eq_true, Bool.and_eq_true, decide_eq_true_eq]
    exact .inr ⟨h1, h2⟩
  simp only [binI]
  rw [ifC_pos h]
theorem bI_mull (i j : Int) (h1 : -18446744073709551616 < i) (h2 : i < 18446744073709551616) : binI .mul i j = some (i * j) := by
  have h : (inR i || inR j) = true := by
    simp only [inR, Bool.or_eq_true, Bool.and_eq_true, decide_eq_true_eq]
    exact .inl ⟨h1, h2⟩
  simp only [binI]
  rw [ifC_pos h]
theorem bI_fdiv (i j : Int) (h1 : 0 < j) (h2 : j < 1073741824) : binI .fdiv i j = some (i / j) := by
  simp only [binI]
  rw [ifC_pos ⟨h1, h2⟩]
theorem bI_mod (i j : Int) (h1 : 0 < j) : binI .mod i j = some (i % j) := by
  simp only [binI]
  rw [if_pos h1]
theorem bI_p6 : binI .pow 10 6 = some 1000000 := by decide +kernel
theorem bI_p9 : binI .pow 10 9 = some 1000000000 := by decide +kernel
theorem bI_p10 : binI .pow 10 10 = some 10000000000 := by decide +kernel
theorem bI_p12 : binI .pow 10 12 = some 1000000000000 := by decide +kernel
theorem bI_p18 : binI .pow 10 18 = some 1000000000000000000 := by decide +kernel
theorem bI_p20 : binI .pow 10 20 = some 100000000000000000000 := by decide +kernel
theorem bI_p30 : binI .pow 10 30 = some 1000000000000000000000000000000 := by decide +kernel
theorem rngM0_ok (j : Int) (μ : Mem) (h1 : -4611686018427387904 ≤ j) (h2 : j < 4611686018427387904) : rngM0 j μ = .ok (rngD 0 j.toNat, []) μ := by
  unfold rngM0
  rw [if_pos]
  unfold inRg
  omega
theorem rngM_ok (i j : Int) (μ : Mem) (h1 : -4611686018427387904 ≤ i) (h2 : i < 4611686018427387904) (h3 : -4611686018427387904 ≤ j) (h4 : j < 4611686018427387904) : rngM i j μ = .ok (rngD i (j - i).toNat, []) μ := by
  unfold rngM
  rw [if_pos]
  unfold inRg
  omega
/-! ### memory -/
theorem getA (μ ν : Mem) (i : Nat) : (μ ++ ν)[μ.length + i]? = ν[i]? := by
  rw [List.getElem?_append_right (by omega)]
  congr 1
  omega
theorem getA0 (μ ν : Mem) : (μ ++ ν)[μ.length]? = ν[0]? := getA μ ν 0
theorem setA (μ ν : Mem) (i : Nat) (c : Cell) : (μ ++ ν).set (μ.length + i) c = μ ++ ν.set i c := by
  rw [List.set_append_right _ _ (by omega)]
  congr 2
  omega
theorem setA0 (μ ν : Mem) (c : Cell) : (μ ++ ν).set μ.length c = μ ++ ν.set 0 c := setA μ ν 0 c
theorem getL {μ ν : Mem} {i : Nat} {c : Cell} (h : μ[i]? = some c) : (μ ++ ν)[i]? = some c := by
  rw [List.getElem?_append_left (List.getElem?_eq_some_iff.mp h).1]
  exact h
/-! ### the way back -/
theorem back_app (μ ν : Mem) : OkBack μ (μ ++ ν) := ⟨by simp, fun c hc => .inl (List.getElem?_append_left hc)⟩
theorem back_refl (μ : Mem) : OkBack μ μ := ⟨Nat.le_refl _, fun _ _ => .inl rfl⟩
theorem back_set {μ μ1 : Mem} (h : OkBack μ μ1) (c : Nat) {cl : Cell} (hT : cellT cl = true) : OkBack μ (μ1.set c cl) := ⟨by simpa using h.1, fun j hj => by
  by_cases e : c = j
  · subst e
    exact .inr ⟨cl, by rw [List.getElem?_set_self (Nat.lt_of_lt_of_le hj h.1)], hT⟩
  · rw [List.getElem?_set_ne e]
    exact h.2 j hj⟩
theorem back_more {μ μ1 : Mem} (h : OkBack μ μ1) (ν : Mem) : OkBack μ (μ1 ++ ν) := ⟨by have := h.1; simp; omega, fun j hj => by
  rw [List.getElem?_append_left (Nat.lt_of_lt_of_le hj h.1)]
  exact h.2 j hj⟩
theorem leave_m {μ μ1 ν : Mem} {t : T} (h : OkBack μ μ1) (hl : μ1.length = μ.length) : leave .frz μ (.t t) (μ1 ++ ν) = .ok (.t t) μ1 := by
  unfold leave
  rw [if_pos (back_more h ν)]
  simp only [frzD]
  rw [← hl, List.take_left]
theorem leave_m0 {μ μ1 : Mem} {t : T} (h : OkBack μ μ1) (hl : μ1.length = μ.length) : leave .frz μ (.t t) μ1 = .ok (.t t) μ1 := by
  have := leave_m (ν := []) (t := t) h hl
  rwa [List.append_nil] at this
theorem leave_t (μ ν : Mem) (t : T) : leave .frz μ (.t t) (μ ++ ν) = .ok (.t t) μ := leave_m (back_refl μ) rfl
theorem leave_t0 (μ : Mem) (t : T) : leave .frz μ (.t t) μ = .ok (.t t) μ := leave_m0 (back_refl μ) rfl
theorem leave_set {μ : Mem} {c : Nat} {cl : Cell} {t : T} (hT : cellT cl = true) : leave .frz μ (.t t) (μ.set c cl) = .ok (.t t) (μ.set c cl) := leave_m0 (back_set (back_refl μ) c hT) (by simp)
theorem mapM_t (μ : Mem) (n k : Nat) (ts : List T) : (ts.map D.t).mapM (frzD μ n k) = some ts := by
  induction ts with
  | nil => rfl
  | cons t ts ih =>
    rw [List.map_cons, List.mapM_cons, ih]
    cases k <;> rfl
theorem mapM_kt (μ : Mem) (n k : Nat) {κ : Type} (ts : List (κ × T)) : ((ts.map fun p => (p.1, D.t p.2)).mapM fun (p : κ × D) => (frzD μ n k p.2).map fun x => (p.1, x)) = some ts := by
  induction ts with
  | nil => rfl
  | cons t ts ih =>
    rw [List.map_cons, List.mapM_cons, ih]
    cases k <;> rfl
theorem frzD_lst {μ : Mem} {n k c : Nat} {ts : List T} (hn : n ≤ c) (h : μ[c]? = some (.lst (ts.map D.t))) : frzD μ n (k + 1) (.ref c) = some (.lst ts) := by
  simp only [frzD, if_pos hn, h]
  have := mapM_t μ n k ts
  simp only [this, Option.map_some]
theorem frzD_dct {μ : Mem} {n k c : Nat} {ts : List (Key × T)} (hn : n ≤ c) (h : μ[c]? = some (.dct (ts.map fun p => (p.1, D.t p.2)))) : frzD μ n (k + 1) (.ref c) = some (.dct ts) := by
  simp only [frzD, if_pos hn, h]
  have := mapM_kt μ n k ts
  simp only [this, Option.map_some]
/-- a new list, frozen -/
theorem leave_l (μ ν : Mem) (i : Nat) (ts : List T) (h : ν[i]? = some (.lst (ts.map D.t))) : leave .frz μ (.ref (μ.length + i)) (μ ++ ν) = .ok (.t (.lst ts)) μ := by
  unfold leave
  rw [if_pos (back_app μ ν)]
  simp only [frzD_lst (k := 3) (Nat.le_add_right μ.length i) ((getA μ ν i).trans h), List.take_left]
theorem leave_l0 (μ ν : Mem) (ts : List T) (h : ν[0]? = some (.lst (ts.map D.t))) : leave .frz μ (.ref μ.length) (μ ++ ν) = .ok (.t (.lst ts)) μ := leave_l μ ν 0 ts h
theorem leave_d (μ ν : Mem) (i : Nat) (ts : List (Key × T)) (h : ν[i]? = some (.dct (ts.map fun p => (p.1, D.t p.2)))) : leave .frz μ (.ref (μ.length + i)) (μ ++ ν) = .ok (.t (.dct ts)) μ := by
  unfold leave
  rw [if_pos (back_app μ ν)]
  simp only [frzD_dct (k := 3) (Nat.le_add_right μ.length i) ((getA μ ν i).trans h), List.take_left]
theorem leave_d0 (μ ν : Mem) (ts : List (Key × T)) (h : ν[0]? = some (.dct (ts.map fun p => (p.1, D.t p.2)))) : leave .frz μ (.ref μ.length) (μ ++ ν) = .ok (.t (.dct ts)) μ := leave_d μ ν 0 ts h
/-- a new list, the caller's -/
theorem leave_c (μ ν : Mem) (i : Nat) (ts : List T) (h : ν[i]? = some (.lst (ts.map D.t))) : leave .cell μ (.ref (μ.length + i)) (μ ++ ν) = .ok (.ref μ.length) (μ ++ [.lst (ts.map D.t)]) := by
  unfold leave
  rw [if_pos (back_app μ ν)]
  simp only [if_pos (Nat.le_add_right μ.length i), getA, h]
  rw [if_pos (by simp [cellT, isT]), List.take_left]
theorem leave_c0 (μ ν : Mem) (ts : List T) (h : ν[0]? = some (.lst (ts.map D.t))) : leave .cell μ (.ref μ.length) (μ ++ ν) = .ok (.ref μ.length) (μ ++ [.lst (ts.map D.t)]) := leave_c μ ν 0 ts h
/-! ### views, by what is seen -/
theorem lO_lst (μ : Mem) (ts : List T) : lstOf μ (.t (.lst ts)) = some (ts.map D.t) := rfl
theorem lO_scr (μ : Mem) (ns : List Int) : lstOf μ (.t (.scr ns)) = some (ns.map fun n => D.t (.int n)) := rfl
theorem lO_tup (μ : Mem) (ts : List T) : lstOf μ (.t (.tup ts)) = none := rfl
theorem lO_dct (μ : Mem) (ts : List (Key × T)) : lstOf μ (.t (.dct ts)) = none := rfl
theorem lO_int (μ : Mem) (i : Int) : lstOf μ (.t (.int i)) = none := rfl
theorem lO_str (μ : Mem) (x : Str) : lstOf μ (.t (.str x)) = none := rfl
theorem lO_non (μ : Mem) : lstOf μ (.t .non) = none := rfl
theorem lO_bl (μ : Mem) (b : Bool) : lstOf μ (.t (.bl b)) = none := rfl
theorem lO_tp (μ : Mem) (ds : List D) : lstOf μ (.tp ds) = none := rfl
theorem lO_ref (μ : Mem) (c : Nat) : lstOf μ (.ref c) = (match μ[c]? with
    | some (.lst ds) => some ds
    | _ => none) := rfl
theorem tuO_tup (ts : List T) : tupOf (.t (.tup ts)) = some (ts.map D.t) := rfl
theorem tuO_tp (ds : List D) : tupOf (.tp ds) = some ds := rfl
theorem dO_lst (μ : Mem) (ts : List T) : dctOf μ (.t (.lst ts)) = none := rfl
theorem dO_tup (μ : Mem) (ts : List T) : dctOf μ (.t (.tup ts)) = none := rfl
theorem dO_dct (μ : Mem) (kts : List (Key × T)) : dctOf μ (.t (.dct kts)) = some (kts.map fun p => (p.1, D.t p.2)) := rfl
theorem dO_ref (μ : Mem) (c : Nat) : dctOf μ (.ref c) = (match μ[c]? with
    | some (.dct kds) => some kds
    | _ => none) := rfl
theorem dTO_lst (μ : Mem) (ts : List T) : dctTOf μ (.t (.lst ts)) = none := rfl
theorem dTO_tup (μ : Mem) (ts : List T) : dctTOf μ (.t (.tup ts)) = none := rfl
theorem dTO_dcT (μ : Mem) (kts : List (List Key × T)) : dctTOf μ (.t (.dcT kts)) = some (kts.map fun p => (p.1, D.t p.2)) := rfl
theorem dTO_ref (μ : Mem) (c : Nat) : dctTOf μ (.ref c) = (match μ[c]? with
    | some (.dcT kds) => some kds
    | _ => none) := rfl
theorem tO_non (μ : Mem) : tyOf μ (.t .non) = some .non := rfl
theorem tO_bl (μ : Mem) (b : Bool) : tyOf μ (.t (.bl b)) = some .bl := rfl
theorem tO_int (μ : Mem) (i : Int) : tyOf μ (.t (.int i)) = some .int := rfl
theorem tO_str (μ : Mem) (x : Str) : tyOf μ (.t (.str x)) = some .str := rfl
theorem tO_lst (μ : Mem) (ts : List T) : tyOf μ (.t (.lst ts)) = some .lst := rfl
theorem tO_tup (μ : Mem) (ts : List T) : tyOf μ (.t (.tup ts)) = some .tup := rfl
theorem tO_dct (μ : Mem) (ts : List (Key × T)) : tyOf μ (.t (.dct ts)) = some .dct := rfl
theorem tO_tp (μ : Mem) (ds : List D) : tyOf μ (.tp ds) = some .tup := rfl
theorem tO_ref (μ : Mem) (c : Nat) : tyOf μ (.ref c) = (match μ[c]? with
    | some (.lst _) => some .lst
    | some (.dct _) => some .dct
    | some (.dcT _) => some .dct
    | _ => none) := rfl
theorem wL_ref (c : Nat) (ds : List D) : watchL (.ref c) ds = [(c, ds)] := rfl
theorem wL_t (t : T) (ds : List D) : watchL (.t t) ds = [] := rfl
/-! ### while -/
theorem whl_true {c : Envv → M Bool} {b : Envv → MO} {n : Nat} {env env1 : Envv} {μ μ1 μ2 : Mem} (hc : c env μ = .ok true μ1) (hb : b env μ1 = some (.nx env1, μ2)) : whlLoop c b (n + 1) env μ = whlLoop c b n env1 μ2 := by
  simp only [whlLoop, lift, hc, if_true, hb]
theorem whl_false {c : Envv → M Bool} {b : Envv → MO} {n : Nat} {env : Envv} {μ μ1 : Mem} (hc : c env μ = .ok false μ1) : whlLoop c b (n + 1) env μ = some (.nx env, μ1) := by
  simp only [whlLoop, lift, hc, Bool.false_eq_true, if_false, outO]
/-! ### lists -/
theorem mkL_t (ts : List T) (μ : Mem) (h : ts.length ≤ sizeLine) : mkL true (ts.map D.t) μ = .ok (.t (.lst ts)) μ := by
  unfold mkL
  rw [if_pos (by simpa using h)]
  simp [toTs_of]
theorem mkL_c (ds : List D) (μ : Mem) (h : ds.length ≤ sizeLine) : mkL false ds μ = .ok (.ref μ.length) (μ ++ [.lst ds]) := by
  unfold mkL
  rw [if_pos h]
theorem mkTup_t (ts : List T) (μ : Mem) (h : ts.length ≤ sizeLine) : mkTup (ts.map D.t) μ = .ok (.t (.tup ts)) μ := by
  unfold mkTup
  rw [if_pos (by simpa using h), toTs_of]
theorem toIs_of (ns : List Int) : toIs (ns.map fun n => D.t (.int n)) = some ns := by
  induction ns with
  | nil => rfl
  | cons n ns ih => simp [toIs, ih]
theorem toIs_of' (ns : List Int) : toIs ((ns.map T.int).map D.t) = some ns := by
  rw [List.map_map]
  exact toIs_of ns
theorem toBs_of (ns : List Bool) : toBs ((ns.map T.bl).map D.t) = some ns := by
  induction ns with
  | nil => rfl
  | cons n ns ih => simp only [List.map_cons, toBs, ih, Option.map_some]
theorem small_line {n : Nat} (h : n ≤ 10000) : n ≤ sizeLine := by rw [sizeLine_eq]; omega
theorem small_line' {n : Nat} (h : n ≤ 10000) : n < sizeLine := by rw [sizeLine_eq]; omega
/-! ### loops -/
theorem wok_nil (μ : Mem) : WOk μ [] := fun p h => by cases h
theorem for_run {α : Type} {tg : Tg} {b : Envv → MO} {w : Watch} (g : α → D) (xs : List α) (P : List α → Envv → Mem → Prop) {env : Envv} {μ : Mem} (h0 : P [] env μ) (hw : ∀ pre env μ, P pre env μ → WOk μ w)
    (hs : ∀ pre x post env μ, xs = pre ++ x :: post → P pre env μ → ∃ env1, asgT tg (g x) env = some env1 ∧ ∃ env' μ', b env1 μ = some (.nx env', μ') ∧ P (pre ++ [x]) env' μ') :
    ∃ env' μ', forLoop tg b w (xs.map g) env μ = some (.nx env', μ') ∧ P xs env' μ' := by
  have main : ∀ (post pre : List α) (env : Envv) (μ : Mem), xs = pre ++ post → P pre env μ → ∃ env' μ', forLoop tg b w (post.map g) env μ = some (.nx env', μ') ∧ P xs env' μ' := by
    intro post
    induction post with
    | nil =>
      intro pre env μ e p
      rw [List.append_nil] at e
      subst e
      refine ⟨env, μ, ?_, p⟩
      simp only [List.map_nil, forLoop, if_pos (hw _ _ _ p)]
    | cons x post ih =>
      intro pre env μ e p
      obtain ⟨env1, e1, env', μ', e2, p'⟩ := hs pre x post env μ e p
      obtain ⟨env'', μ'', e3, p''⟩ := ih (pre ++ [x]) env' μ' (by rw [e]; simp) p'
      refine ⟨env'', μ'', ?_, p''⟩
      simp only [List.map_cons, forLoop, if_pos (hw _ _ _ p), e1, e2, e3]
  exact main xs [] env μ rfl h0
theorem comp_run {α : Type} {tg : Tg} {env : Envv} {c : Envv → M Bool} {el : Envv → M D} {w : Watch} (g : α → D) (xs : List α) (p : α → Bool) (f : α → T) {μ : Mem} (hw : WOk μ w)
    (h : ∀ x ∈ xs, ∃ env', asgT tg (g x) env = some env' ∧ c env' μ = .ok (p x) μ ∧ (p x = true → el env' μ = .ok (.t (f x)) μ)) (acc : List D) :
    compLoop tg env c el w (xs.map g) acc μ = .ok (acc ++ ((xs.filter p).map f).map D.t) μ := by
  induction xs generalizing acc with
  | nil => simp only [List.map_nil, compLoop, if_pos hw, List.filter_nil, List.append_nil]
  | cons x xs ih =>
    obtain ⟨env', e1, e2, e3⟩ := h x (by simp)
    have ih := fun acc => ih (fun y hy => h y (by simp [hy])) acc
    simp only [List.map_cons, compLoop, if_pos hw, e1, bnd, e2, noEx]
    cases hp : p x with
    | true => simp only [hp, if_true, List.filter_cons, List.map_cons, e3 hp, ih, List.append_assoc, List.singleton_append, bnd]
    | false => simp [hp, ih, List.filter_cons]
theorem comp_map {α : Type} {tg : Tg} {env : Envv} {c : Envv → M Bool} {el : Envv → M D} {w : Watch} (g : α → D) (xs : List α) (f : α → T) {μ : Mem} (hw : WOk μ w)
    (h : ∀ x ∈ xs, ∃ env', asgT tg (g x) env = some env' ∧ c env' μ = .ok true μ ∧ el env' μ = .ok (.t (f x)) μ) (acc : List D) :
    compLoop tg env c el w (xs.map g) acc μ = .ok (acc ++ (xs.map f).map D.t) μ := by
  have := comp_run (tg := tg) (env := env) (c := c) (el := el) (w := w) g xs (fun _ => true) f hw (fun x hx => let ⟨e, h1, h2, h3⟩ := h x hx; ⟨e, h1, h2, fun _ => h3⟩) acc
  rwa [List.filter_eq_self.mpr (fun _ _ => rfl)] at this
theorem ev_comp {α : Type} {F : Orac} {own : List (Str × Nat)} {tg : Tg} {it : It} {ifs : Es} {e : E} {env : Envv} {μ : Mem} {w : Watch} (g : α → D) (xs : List α) (p : α → Bool) (f : α → T) (hi : evI F it env μ = .ok (xs.map g, w) μ) (hl : xs.length ≤ sizeLine) (hw : WOk μ w)
    (h : ∀ x ∈ xs, ∃ env', asgT tg (g x) (wipeD env (own.map (·.2))) = some env' ∧ evC F ifs env' μ = .ok (p x) μ ∧ (p x = true → evE F e env' μ = .ok (.t (f x)) μ)) :
    evE F (.comp true own tg it ifs e) env μ = .ok (.t (.lst ((xs.filter p).map f))) μ := by
  have e1 := comp_run (tg := tg) (env := wipeD env (own.map (·.2))) (c := fun env => evC F ifs env) (el := fun env => evE F e env) (w := w) g xs p f hw h []
  simp only [evE, bnd_ap, hi, List.length_map, if_pos hl]
  rw [e1]
  simp only [List.nil_append]
  rw [mkL_t]
  exact Nat.le_trans (by rw [List.length_map]; exact List.length_filter_le _ _) hl
theorem ev_map {α : Type} {F : Orac} {own : List (Str × Nat)} {tg : Tg} {it : It} {e : E} {env : Envv} {μ : Mem} {w : Watch} (g : α → D) (xs : List α) (f : α → T) (hi : evI F it env μ = .ok (xs.map g, w) μ) (hl : xs.length ≤ sizeLine) (hw : WOk μ w)
    (h : ∀ x ∈ xs, ∃ env', asgT tg (g x) (wipeD env (own.map (·.2))) = some env' ∧ evE F e env' μ = .ok (.t (f x)) μ) :
    evE F (.comp true own tg it .nil e) env μ = .ok (.t (.lst (xs.map f))) μ := by
  have := ev_comp (own := own) (tg := tg) (it := it) (ifs := .nil) (e := e) g xs (fun _ => true) f hi hl hw (fun x hx => by
    obtain ⟨env', h1, h2⟩ := h x hx
    exact ⟨env', h1, by simp only [evC]; rfl, fun _ => h2⟩)
  rwa [List.filter_eq_self.mpr (fun _ _ => rfl)] at this
theorem ev_mapc {α : Type} {F : Orac} {own : List (Str × Nat)} {tg : Tg} {it : It} {e : E} {env : Envv} {μ : Mem} {w : Watch} (g : α → D) (xs : List α) (f : α → T) (hi : evI F it env μ = .ok (xs.map g, w) μ) (hl : xs.length ≤ sizeLine) (hw : WOk μ w)
    (h : ∀ x ∈ xs, ∃ env', asgT tg (g x) (wipeD env (own.map (·.2))) = some env' ∧ evE F e env' μ = .ok (.t (f x)) μ) :
    evE F (.comp false own tg it .nil e) env μ = .ok (.ref μ.length) (μ ++ [.lst ((xs.map f).map D.t)]) := by
  have e1 := comp_map (tg := tg) (env := wipeD env (own.map (·.2))) (c := fun env => evC F .nil env) (el := fun env => evE F e env) (w := w) g xs f hw (fun x hx => by
    obtain ⟨env', h1, h2⟩ := h x hx
    exact ⟨env', h1, by simp only [evC]; rfl, h2⟩) []
  simp only [evE, bnd_ap, hi, List.length_map, if_pos hl]
  rw [e1]
  simp only [List.nil_append]
  rw [mkL_c _ _ (by simpa using hl)]
theorem enumD_t : ∀ (ts : List T) (k : Nat), enumD k (ts.map D.t) = (ts.zipIdx k).map fun p => D.t (.tup [.int (p.2 : Nat), p.1])
  | [], _ => rfl
  | t :: ts, k => by
    simp only [List.map_cons, enumD, List.zipIdx_cons, enumD_t ts (k + 1)]
theorem zipD_t : ∀ (ts us : List T), List.zipWith pairD (ts.map D.t) (us.map D.t) = (ts.zip us).map fun p => D.t (.tup [p.1, p.2])
  | [], _ => rfl
  | _ :: _, [] => by simp
  | t :: ts, u :: us => by simp only [List.map_cons, List.zipWith_cons_cons, pairD, List.zip_cons_cons, zipD_t ts us]
theorem rngD_map : ∀ (n : Nat) (lo : Int), rngD lo n = (List.range n).map fun (i : Nat) => D.t (.int (lo + (i : Int)))
  | 0, _ => rfl
  | n + 1, lo => by
    rw [rngD, rngD_map n, List.range_succ_eq_map, List.map_cons, List.map_map]
    congr 1
    · simp
    · apply List.map_congr_left
      intro i _
      simp only [Function.comp_apply, Nat.succ_eq_add_one]
      congr 2
      omega
end MI
namespace My
open PySem PySem.Spec PyProof.Rows L2 MI
/-! the text of the program and the law, small -/
abbrev topS (i : Nat) : Stmt := PySem.Challenge.pw_touchall_k30_what_a_chain_names.main.body.getD i (.Pass ⟨0, 0, 0, 0⟩)
abbrev F_law : Nat := 0
abbrev F_fixed_by : Nat := 1
abbrev F_w_take : Nat := 2
abbrev F_w_due : Nat := 3
abbrev F_fixed_by_k : Nat := 4
abbrev F_w_chain : Nat := 5
abbrev F_w_next : Nat := 6
abbrev F_w_laid : Nat := 7
abbrev F_w_priced : Nat := 8
abbrev F_w_begun_c : Nat := 9
/-- law (frz) -/
def C_law_0 : E := (.comp true [("_law_place", 10)] (.nm 10) (.val (.ix (.var 9) (.cst (.int 0)))) (.cons (.cmp .mem (.var 10) (.ix (.var 9) (.cst (.int 1)))) .nil) (.var 10))
def L_law_1 : Ss := (.cons (.asg (.nm 8) (.bfn false .list (.cons (.var 7) .nil))) (.cons (.asg (.nm 9) (.call F_fixed_by_k (.cons (.var 8) .nil))) (.cons (.ife (.or (.not (.isi (.var 9) [.tup])) (.or (.cmp .ne (.bfn true .len (.cons (.var 9) .nil)) (.cst (.int 2))) (.cmp .ne (.var 8) (.var 7)))) (.cons (.ret (.cst (.bl false))) .nil) .nil) (.cons (.ife (.cmp .ne (.var 9) (.call F_w_due (.cons (.var 7) .nil))) (.cons (.ret (.cst (.bl false))) .nil) .nil) (.cons (.ife (.cmp .ne C_law_0 (.lst true .nil)) (.cons (.ret (.cst (.bl false))) .nil) .nil) (.cons (.xpr (.mth .append (.ix (.var 9) (.cst (.int 0))) (.cons (.cst .non) .nil))) (.cons (.ife (.cmp .mem (.cst .non) (.ix (.var 9) (.cst (.int 1)))) (.cons (.ret (.cst (.bl false))) .nil) .nil) (.cons (.xpr (.mth .clear (.var 8) .nil)) (.cons (.xpr (.mth .clear (.ix (.var 9) (.cst (.int 1))) .nil)) (.cons (.ife (.cmp .ne (.call F_fixed_by (.cons (.var 7) .nil)) (.call F_w_due (.cons (.var 7) .nil))) (.cons (.ret (.cst (.bl false))) .nil) .nil) .nil))))))))))
def L_law_2 : Ss := (.cons (.asg (.nm 2) (.call F_w_begun_c (.cons (.var 0) (.cons (.var 1) .nil)))) (.cons (.asg (.tp [(.nm 3), (.nm 4), (.nm 5)]) (.call F_w_laid (.cons (.var 2) (.cons (.cst (.int 9)) .nil)))) (.cons (.asg (.nm 6) (.call F_w_chain (.cons (.var 2) (.cons (.var 3) (.cons (.var 5) (.cons (.cst (.int 30)) .nil)))))) (.cons (.for (.nm 7) (.val (.lst true (.cons (.var 6) (.cons (.bin .add (.var 6) (.slc true (.var 6) .none (.some (.call F_w_take (.cons (.var 2) (.cons (.cst (.int 9)) .nil)))))) .nil)))) L_law_1) .nil))))
def b_law : Ss := (.cons (.for (.nm 1) (.rng1 (.bfn true .max2 (.cons (.cst (.int 1)) (.cons (.bfn true .min2 (.cons (.bfn true .len (.cons (.var 0) .nil)) (.cons (.cst (.int 20)) .nil))) .nil)))) L_law_2) (.cons (.ret (.cmp .eq (.call F_fixed_by (.cons (.lst true .nil) .nil)) (.tup (.cons (.lst true .nil) (.cons (.lst true .nil) .nil))))) .nil))
def d0 : Def := ⟨1, 11, .frz, b_law⟩
abbrev e0 : Ent := ⟨"law", topS 10, ["_law_script", "_law_k", "_law_state", "_law_web", "_law_halves", "_law_dues", "_law_chain_here", "_law_some", "_law_handed", "_law_found", "_law_place"], ["_law_script"], d0⟩
/-- fixed_by (frz) -/
def C_fixed_by_0 : E := (.comp true [("one", 2)] (.nm 2) (.val (.var 0)) (.cons (.cmp .ne (.ix (.var 2) (.cst (.int 0))) (.cst (.str "beside"))) .nil) (.ix (.var 2) (.neg (.cst (.int 1)))))
def C_fixed_by_1 : E := (.comp true [("one", 2)] (.nm 2) (.val (.var 0)) (.cons (.cmp .eq (.ix (.var 2) (.cst (.int 0))) (.cst (.str "beside"))) .nil) (.ix (.var 2) (.cst (.int 2))))
def b_fixed_by : Ss := (.cons (.asg (.nm 1) (.sset true C_fixed_by_1)) (.cons (.asg (.nm 3) (.sset true C_fixed_by_0)) (.cons (.ret (.tup (.cons (.var 1) (.cons (.var 3) .nil)))) .nil)))
def d1 : Def := ⟨1, 4, .frz, b_fixed_by⟩
abbrev e1 : Ent := ⟨"fixed_by", topS 1, ["chain", "ins", "one", "outs"], ["chain"], d1⟩
/-- _law_take (frz) -/
def b_w_take : Ss := (.cons (.ife (.ix (.var 0) (.cst (.int 2))) (.cons (.asg (.nm 2) (.bin .mod (.ix (.var 0) (.cst (.int 0))) (.var 1))) (.cons (.setx (.var 0) (.cst (.int 0)) (.bin .fdiv (.ix (.var 0) (.cst (.int 0))) (.var 1))) (.cons (.setx (.var 0) (.cst (.int 2)) (.cmp .gt (.ix (.var 0) (.cst (.int 0))) (.cst (.int 0)))) (.cons (.ret (.var 2)) .nil)))) .nil) (.cons (.setx (.var 0) (.cst (.int 1)) (.bin .mod (.bin .add (.bin .mul (.ix (.var 0) (.cst (.int 1))) (.cst (.int 48271))) (.cst (.int 39373))) (.cst (.int 2147483647)))) (.cons (.asg (.nm 3) (.bin .fdiv (.bin .mod (.bin .mul (.ix (.var 0) (.cst (.int 1))) (.ix (.var 0) (.cst (.int 1)))) (.cst (.int 2147483629))) (.cst (.int 16)))) (.cons (.ife (.cmp .gt (.var 1) (.bin .pow (.cst (.int 10)) (.cst (.int 6)))) (.cons (.setx (.var 0) (.cst (.int 1)) (.bin .mod (.bin .add (.bin .mul (.ix (.var 0) (.cst (.int 1))) (.cst (.int 48271))) (.cst (.int 39373))) (.cst (.int 2147483647)))) (.cons (.asg (.nm 3) (.bin .add (.bin .mul (.var 3) (.cst (.int 2147483629))) (.ix (.var 0) (.cst (.int 1))))) .nil)) .nil) (.cons (.ret (.bin .mod (.var 3) (.var 1))) .nil)))))
def d2 : Def := ⟨2, 4, .frz, b_w_take⟩
abbrev e2 : Ent := ⟨"_law_take", topS 4, ["_law_state", "_law_many", "_law_digit", "_law_number"], ["_law_state", "_law_many"], d2⟩
/-- _law_due (frz) -/
def L_w_due_0 : Ss := (.cons (.asg (.nm 3) (.ix (.var 1) (.bfn true .int1 (.cons (.cmp .ne (.ix (.var 2) (.cst (.int 0))) (.cst (.str "beside"))) .nil)))) (.cons (.ife (.cmp .nmem (.ix (.var 2) (.neg (.cst (.int 1)))) (.var 3)) (.cons (.xpr (.mth .append (.var 3) (.cons (.ix (.var 2) (.neg (.cst (.int 1)))) .nil))) .nil) .nil) .nil))
def b_w_due : Ss := (.cons (.asg (.nm 1) (.lst false (.cons (.lst false .nil) (.cons (.lst false .nil) .nil)))) (.cons (.for (.nm 2) (.val (.var 0)) L_w_due_0) (.cons (.ret (.tup (.cons (.bfn true .sorted (.cons (.ix (.var 1) (.cst (.int 0))) .nil)) (.cons (.bfn true .sorted (.cons (.ix (.var 1) (.cst (.int 1))) .nil)) .nil)))) .nil)))
def d3 : Def := ⟨1, 4, .frz, b_w_due⟩
abbrev e3 : Ent := ⟨"_law_due", topS 9, ["_law_chain_here", "_law_found", "_law_one", "_law_side"], ["_law_chain_here"], d3⟩
/-- fixed_by (keep) -/
def C_fixed_by_k_0 : E := (.comp true [("one", 2)] (.nm 2) (.val (.var 0)) (.cons (.cmp .ne (.ix (.var 2) (.cst (.int 0))) (.cst (.str "beside"))) .nil) (.ix (.var 2) (.neg (.cst (.int 1)))))
def C_fixed_by_k_1 : E := (.comp true [("one", 2)] (.nm 2) (.val (.var 0)) (.cons (.cmp .eq (.ix (.var 2) (.cst (.int 0))) (.cst (.str "beside"))) .nil) (.ix (.var 2) (.cst (.int 2))))
def b_fixed_by_k : Ss := (.cons (.asg (.nm 1) (.sset false C_fixed_by_k_1)) (.cons (.asg (.nm 3) (.sset false C_fixed_by_k_0)) (.cons (.ret (.tup (.cons (.var 1) (.cons (.var 3) .nil)))) .nil)))
def d4 : Def := ⟨1, 4, .keep, b_fixed_by_k⟩
abbrev e4 : Ent := ⟨"fixed_by", topS 1, ["chain", "ins", "one", "outs"], ["chain"], d4⟩
/-- _law_chain (frz) -/
def L_w_chain_0 : Ss := (.cons (.asg (.nm 6) (.call F_w_next (.cons (.var 1) (.cons (.var 2) (.cons (.var 4) .nil))))) (.cons (.ife (.cmp .ne (.var 6) (.lst true .nil)) (.cons (.xpr (.mth .append (.var 4) (.cons (.ix (.var 6) (.call F_w_take (.cons (.var 0) (.cons (.bfn true .len (.cons (.var 6) .nil)) .nil)))) .nil))) .nil) .nil) .nil))
def b_w_chain : Ss := (.cons (.asg (.nm 4) (.lst false .nil)) (.cons (.for (.nm 5) (.rng1 (.call F_w_take (.cons (.var 0) (.cons (.bin .add (.var 3) (.cst (.int 1))) .nil)))) L_w_chain_0) (.cons (.ret (.var 4)) .nil)))
def d5 : Def := ⟨4, 7, .frz, b_w_chain⟩
abbrev e5 : Ent := ⟨"_law_chain", topS 8, ["_law_state", "_law_web", "_law_dues", "_law_most", "_law_chain_here", "_law_k", "_law_some"], ["_law_state", "_law_web", "_law_dues", "_law_most"], d5⟩
/-- _law_next (frz) -/
def L_w_next_0 : Ss := (.cons (.ife (.cmp .mem (.var 14) (.var 5)) (.cons (.xpr (.mth .append (.var 9) (.cons (.tup (.cons (.cst (.str "beside")) (.cons (.var 14) (.cons (.var 15) .nil)))) .nil))) .nil) .nil) (.cons (.ife (.and (.cmp .mem (.var 14) (.var 3)) (.cmp .mem (.tup (.cons (.var 4) (.cons (.var 7) .nil))) (.var 12))) (.cons (.xpr (.mth .append (.var 9) (.cons (.tup (.cons (.cst (.str "tight")) (.cons (.var 14) (.cons (.var 15) .nil)))) .nil))) .nil) .nil) .nil))
def L_w_next_1 : Ss := (.cons (.for (.tp [(.nm 14), (.nm 15)]) (.val (.lst true (.cons (.tup (.cons (.var 4) (.cons (.var 7) .nil))) (.cons (.tup (.cons (.var 7) (.cons (.var 4) .nil))) .nil)))) L_w_next_0) .nil)
def C_w_next_2 : E := (.comp true [("_law_due_here", 13)] (.nm 13) (.val (.var 1)) .nil (.slc true (.var 13) .none (.some (.cst (.int 2)))))
def C_w_next_3 : E := (.comp false [("_law_place", 10), ("_law_price", 11)] (.tp [(.nm 10), (.nm 11)]) (.val (.ix (.var 0) (.cst (.int 0)))) (.cons (.cmp .lt (.mth .dget (.var 6) (.cons (.var 10) (.cons (.cst (.int 0)) .nil))) (.bin .mul (.cst (.int 2)) (.var 11))) .nil) (.tup (.cons (.cst (.str "loose")) (.cons (.var 10) .nil))))
def L_w_next_4 : Ss := (.cons (.setx (.var 6) (.var 4) (.bin .add (.mth .dget (.var 6) (.cons (.var 4) (.cons (.cst (.int 0)) .nil))) (.var 8))) (.cons (.setx (.var 6) (.var 7) (.bin .add (.mth .dget (.var 6) (.cons (.var 7) (.cons (.cst (.int 0)) .nil))) (.var 8))) .nil))
def C_w_next_5 : E := (.comp true [("_law_one", 4)] (.nm 4) (.val (.var 2)) (.cons (.cmp .ne (.ix (.var 4) (.cst (.int 0))) (.cst (.str "beside"))) .nil) (.ix (.var 4) (.neg (.cst (.int 1)))))
def C_w_next_6 : E := (.comp true [("_law_one", 4)] (.nm 4) (.val (.var 2)) (.cons (.cmp .eq (.ix (.var 4) (.cst (.int 0))) (.cst (.str "beside"))) .nil) (.ix (.var 4) (.cst (.int 2))))
def b_w_next : Ss := (.cons (.asg (.nm 3) C_w_next_6) (.cons (.asg (.nm 5) C_w_next_5) (.cons (.asg (.nm 6) (.dnew false)) (.cons (.for (.tp [(.nm 4), (.nm 7), (.nm 8)]) (.val (.var 1)) L_w_next_4) (.cons (.asg (.nm 9) C_w_next_3) (.cons (.asg (.nm 12) C_w_next_2) (.cons (.for (.tp [(.nm 4), (.nm 7)]) (.val (.ix (.var 0) (.cst (.int 1)))) L_w_next_1) (.cons (.ret (.var 9)) .nil))))))))
def d6 : Def := ⟨3, 16, .frz, b_w_next⟩
abbrev e6 : Ent := ⟨"_law_next", topS 7, ["_law_web", "_law_dues", "_law_chain_here", "_law_ins", "_law_one", "_law_outs", "_law_paid", "_law_other", "_law_amount", "_law_found", "_law_place", "_law_price", "_law_tied", "_law_due_here", "_law_u", "_law_v"], ["_law_web", "_law_dues", "_law_chain_here"], d6⟩
/-- _law_laid (frz) -/
def L_w_laid_0 : Ss := (.cons (.ife (.and (.cmp .gt (.bin .add (.ix (.var 4) (.var 5)) (.ix (.var 4) (.var 7))) (.cst (.int 1))) (.cmp .lt (.call F_w_take (.cons (.var 0) (.cons (.cst (.int 5)) .nil))) (.var 3))) (.cons (.asg (.nm 8) (.cst (.int 0))) (.cons (.ife (.and (.cmp .eq (.bin .add (.ix (.var 4) (.var 5)) (.ix (.var 4) (.var 7))) (.cst (.int 2))) (.cmp .gt (.call F_w_take (.cons (.var 0) (.cons (.cst (.int 4)) .nil))) (.cst (.int 0)))) (.cons (.asg (.nm 8) (.bin .add (.cst (.int 1)) (.call F_w_take (.cons (.var 0) (.cons (.var 2) .nil))))) .nil) .nil) (.cons (.xpr (.mth .append (.var 6) (.cons (.lst true (.cons (.var 5) (.cons (.var 7) (.cons (.var 8) .nil)))) .nil))) .nil))) .nil) .nil)
def L_w_laid_1 : Ss := (.cons (.for (.nm 7) (.rng2 (.bin .add (.var 5) (.cst (.int 1))) (.bfn true .len (.cons (.var 4) .nil))) L_w_laid_0) .nil)
def C_w_laid_2 : E := (.comp true [("_law_k", 5)] (.nm 5) (.rng1 (.call F_w_take (.cons (.var 0) (.cons (.bin .add (.var 1) (.cst (.int 1))) .nil)))) .nil (.call F_w_take (.cons (.var 0) (.cons (.cst (.int 3)) .nil))))
def b_w_laid : Ss := (.cons (.asg (.nm 2) (.ix (.lst true (.cons (.cst (.int 2)) (.cons (.cst (.int 9)) (.cons (.bin .pow (.cst (.int 10)) (.cst (.int 9))) .nil)))) (.call F_w_take (.cons (.var 0) (.cons (.cst (.int 3)) .nil))))) (.cons (.asg (.nm 3) (.bin .add (.cst (.int 1)) (.call F_w_take (.cons (.var 0) (.cons (.cst (.int 4)) .nil))))) (.cons (.asg (.nm 4) C_w_laid_2) (.cons (.asg (.nm 6) (.lst false .nil)) (.cons (.for (.nm 5) (.rng1 (.bfn true .len (.cons (.var 4) .nil))) L_w_laid_1) (.cons (.ret (.call F_w_priced (.cons (.var 0) (.cons (.var 4) (.cons (.var 6) .nil))))) .nil))))))
def d7 : Def := ⟨2, 9, .frz, b_w_laid⟩
abbrev e7 : Ent := ⟨"_law_laid", topS 6, ["_law_state", "_law_most", "_law_great", "_law_dense", "_law_hs", "_law_k", "_law_raw", "_law_j", "_law_due_here"], ["_law_state", "_law_most"], d7⟩
/-- _law_priced (frz) -/
def C_w_priced_0 : E := (.comp true [("_law_k", 5), ("_law_j", 6), ("_law_due_here", 7)] (.tp [(.nm 5), (.nm 6), (.nm 7)]) (.val (.var 2)) (.cons (.cmp .gt (.var 7) (.cst (.int 0))) .nil) (.tup (.cons (.ix (.var 10) (.var 5)) (.cons (.ix (.var 10) (.var 6)) (.cons (.bin .mul (.var 7) (.var 8)) .nil)))))
def C_w_priced_1 : E := (.comp true [("_law_k", 5), ("_law_j", 6), ("_law_due_here", 7)] (.tp [(.nm 5), (.nm 6), (.nm 7)]) (.val (.var 2)) (.cons (.and (.cmp .mem (.ix (.var 10) (.var 5)) (.var 14)) (.cmp .mem (.ix (.var 10) (.var 6)) (.var 14))) .nil) (.tup (.cons (.ix (.var 10) (.var 5)) (.cons (.ix (.var 10) (.var 6)) .nil))))
def C_w_priced_2 : E := (.comp true [("_law_place", 15), ("_law_h", 4)] (.tp [(.nm 15), (.nm 4)]) (.val (.var 12)) .nil (.var 15))
def L_w_priced_3 : Ss := (.cons (.asg (.nm 9) (.bin .add (.bin .add (.var 9) (.cst (.int 1))) (.call F_w_take (.cons (.var 0) (.cons (.ix (.lst true (.cons (.cst (.int 1)) (.cons (.cst (.int 2)) (.cons (.cst (.int 20)) .nil)))) (.call F_w_take (.cons (.var 0) (.cons (.cst (.int 3)) .nil)))) .nil))))) (.cons (.xpr (.mth .append (.var 10) (.cons (.var 9) .nil))) (.cons (.asg (.nm 13) (.bin .fdiv (.bin .mul (.ix (.var 3) (.var 5)) (.var 8)) (.cst (.int 2)))) (.cons (.ife (.cmp .eq (.ix (.var 1) (.var 5)) (.cst (.int 0))) (.cons (.asg (.nm 13) (.bfn true .max2 (.cons (.cst (.int 1)) (.cons (.bin .add (.bin .fdiv (.bin .add (.bin .mul (.ix (.var 3) (.var 5)) (.var 8)) (.cst (.int 1))) (.cst (.int 2))) (.call F_w_take (.cons (.var 0) (.cons (.cst (.int 3)) .nil)))) .nil)))) .nil) .nil) (.cons (.ife (.cmp .gt (.var 13) (.cst (.int 0))) (.cons (.xpr (.mth .append (.var 11) (.cons (.tup (.cons (.var 9) (.cons (.var 13) .nil))) .nil))) (.cons (.xpr (.mth .append (.var 12) (.cons (.tup (.cons (.var 9) (.cons (.ix (.var 1) (.var 5)) .nil))) .nil))) .nil)) .nil) .nil)))))
def C_w_priced_4 : E := (.comp true [("_law_k", 5)] (.nm 5) (.rng1 (.bfn true .len (.cons (.var 1) .nil))) (.cons (.cmp .gt (.ix (.var 1) (.var 5)) (.cst (.int 0))) .nil) (.bin .mod (.ix (.var 3) (.var 5)) (.cst (.int 2))))
def L_w_priced_5 : Ss := (.cons (.setx (.var 3) (.var 5) (.bin .add (.ix (.var 3) (.var 5)) (.var 7))) (.cons (.setx (.var 3) (.var 6) (.bin .add (.ix (.var 3) (.var 6)) (.var 7))) .nil))
def C_w_priced_6 : E := (.comp false [("_law_h", 4)] (.nm 4) (.val (.var 1)) .nil (.cst (.int 0)))
def b_w_priced : Ss := (.cons (.asg (.nm 3) C_w_priced_6) (.cons (.for (.tp [(.nm 5), (.nm 6), (.nm 7)]) (.val (.var 2)) L_w_priced_5) (.cons (.asg (.nm 8) (.bin .add (.cst (.int 1)) (.mxd true C_w_priced_4 (0)))) (.cons (.asg (.nm 9) (.neg (.cst (.int 1)))) (.cons (.asg (.nm 10) (.lst false .nil)) (.cons (.asg (.nm 11) (.lst false .nil)) (.cons (.asg (.nm 12) (.lst false .nil)) (.cons (.for (.nm 5) (.rng1 (.bfn true .len (.cons (.var 1) .nil))) L_w_priced_3) (.cons (.asg (.nm 14) C_w_priced_2) (.cons (.asg (.nm 16) C_w_priced_1) (.cons (.asg (.nm 17) C_w_priced_0) (.cons (.ret (.tup (.cons (.tup (.cons (.var 11) (.cons (.var 16) .nil))) (.cons (.var 12) (.cons (.var 17) .nil))))) .nil))))))))))))
def d8 : Def := ⟨3, 18, .frz, b_w_priced⟩
abbrev e8 : Ent := ⟨"_law_priced", topS 5, ["_law_state", "_law_hs", "_law_raw", "_law_paid", "_law_h", "_law_k", "_law_j", "_law_due_here", "_law_twice", "_law_number", "_law_names", "_law_places", "_law_halves", "_law_price", "_law_kept", "_law_place", "_law_ties", "_law_dues"], ["_law_state", "_law_hs", "_law_raw"], d8⟩
/-- _law_begun (cell) -/
def b_w_begun_c : Ss := (.cons (.asg (.nm 2) (.cst (.int 0))) (.cons (.ife (.cmp .lt (.var 1) (.bfn true .len (.cons (.var 0) .nil))) (.cons (.asg (.nm 2) (.ix (.var 0) (.var 1))) .nil) .nil) (.cons (.asg (.nm 3) (.bin .add (.bin .add (.bin .mod (.var 2) (.cst (.int 2147483629))) (.bin .mul (.cst (.int 104729)) (.var 1))) (.bin .mul (.cst (.int 7919)) (.bin .fdiv (.var 1) (.cst (.int 7)))))) (.cons (.ret (.lst false (.cons (.var 2) (.cons (.bin .mod (.var 3) (.cst (.int 2147483629))) (.cons (.cmp .ge (.var 2) (.bin .pow (.cst (.int 10)) (.cst (.int 18)))) .nil))))) .nil))))
def d9 : Def := ⟨2, 4, .cell, b_w_begun_c⟩
abbrev e9 : Ent := ⟨"_law_begun", topS 3, ["_law_script", "_law_k", "_law_cell", "_law_mixed"], ["_law_script", "_law_k"], d9⟩
def tbl : List Ent := [e0, e1, e2, e3, e4, e5, e6, e7, e8, e9]
def blts : List Str := ["int", "isinstance", "len", "list", "max", "min", "range", "set", "sorted", "tuple"]
def glo : List (Str × T) := []
def clss : List ClsI := []
def subs : List (Str × Str × Bool) := []
def xfs : List (Str × Str × Bool) := []
def wks : List Nat := []
abbrev defs : Nat → Option Def := defsOf tbl
theorem ok0 : EntOk (sigB (sigOf tbl blts glo clss subs xfs) wks false) e0 := ⟨⟨rfl, rfl, rfl, by decide +kernel, rfl, by decide +kernel, by decide +kernel⟩, rfl, rfl, by decide +kernel⟩
theorem ok1 : EntOk (sigB (sigOf tbl blts glo clss subs xfs) wks false) e1 := ⟨⟨rfl, rfl, rfl, by decide +kernel, rfl, by decide +kernel, by decide +kernel⟩, rfl, rfl, by decide +kernel⟩
theorem ok2 : EntOk (sigB (sigOf tbl blts glo clss subs xfs) wks false) e2 := ⟨⟨rfl, rfl, rfl, by decide +kernel, rfl, by decide +kernel, by decide +kernel⟩, rfl, rfl, by decide +kernel⟩
theorem ok3 : EntOk (sigB (sigOf tbl blts glo clss subs xfs) wks false) e3 := ⟨⟨rfl, rfl, rfl, by decide +kernel, rfl, by decide +kernel, by decide +kernel⟩, rfl, rfl, by decide +kernel⟩
theorem ok4 : EntOk (sigB (sigOf tbl blts glo clss subs xfs) wks false) e4 := ⟨⟨rfl, rfl, rfl, by decide +kernel, rfl, by decide +kernel, by decide +kernel⟩, rfl, rfl, by decide +kernel⟩
theorem ok5 : EntOk (sigB (sigOf tbl blts glo clss subs xfs) wks false) e5 := ⟨⟨rfl, rfl, rfl, by decide +kernel, rfl, by decide +kernel, by decide +kernel⟩, rfl, rfl, by decide +kernel⟩
theorem ok6 : EntOk (sigB (sigOf tbl blts glo clss subs xfs) wks false) e6 := ⟨⟨rfl, rfl, rfl, by decide +kernel, rfl, by decide +kernel, by decide +kernel⟩, rfl, rfl, by decide +kernel⟩
theorem ok7 : EntOk (sigB (sigOf tbl blts glo clss subs xfs) wks false) e7 := ⟨⟨rfl, rfl, rfl, by decide +kernel, rfl, by decide +kernel, by decide +kernel⟩, rfl, rfl, by decide +kernel⟩
theorem ok8 : EntOk (sigB (sigOf tbl blts glo clss subs xfs) wks false) e8 := ⟨⟨rfl, rfl, rfl, by decide +kernel, rfl, by decide +kernel, by decide +kernel⟩, rfl, rfl, by decide +kernel⟩
theorem ok9 : EntOk (sigB (sigOf tbl blts glo clss subs xfs) wks false) e9 := ⟨⟨rfl, rfl, rfl, by decide +kernel, rfl, by decide +kernel, by decide +kernel⟩, rfl, rfl, by decide +kernel⟩
theorem u_law (k : Nat) (a0 : D) (μ : Mem) : callI defs (k + 1) F_law [a0] μ = fin .frz μ (evSs (callI defs k) b_law [some a0, none, none, none, none, none, none, none, none, none, none] μ) := callI_succ (d := d0) rfl rfl
theorem u_fixed_by (k : Nat) (a0 : D) (μ : Mem) : callI defs (k + 1) F_fixed_by [a0] μ = fin .frz μ (evSs (callI defs k) b_fixed_by [some a0, none, none, none] μ) := callI_succ (d := d1) rfl rfl
theorem u_w_take (k : Nat) (a0 a1 : D) (μ : Mem) : callI defs (k + 1) F_w_take [a0, a1] μ = fin .frz μ (evSs (callI defs k) b_w_take [some a0, some a1, none, none] μ) := callI_succ (d := d2) rfl rfl
theorem u_w_due (k : Nat) (a0 : D) (μ : Mem) : callI defs (k + 1) F_w_due [a0] μ = fin .frz μ (evSs (callI defs k) b_w_due [some a0, none, none, none] μ) := callI_succ (d := d3) rfl rfl
theorem u_fixed_by_k (k : Nat) (a0 : D) (μ : Mem) : callI defs (k + 1) F_fixed_by_k [a0] μ = fin .keep μ (evSs (callI defs k) b_fixed_by_k [some a0, none, none, none] μ) := callI_succ (d := d4) rfl rfl
theorem u_w_chain (k : Nat) (a0 a1 a2 a3 : D) (μ : Mem) : callI defs (k + 1) F_w_chain [a0, a1, a2, a3] μ = fin .frz μ (evSs (callI defs k) b_w_chain [some a0, some a1, some a2, some a3, none, none, none] μ) := callI_succ (d := d5) rfl rfl
theorem u_w_next (k : Nat) (a0 a1 a2 : D) (μ : Mem) : callI defs (k + 1) F_w_next [a0, a1, a2] μ = fin .frz μ (evSs (callI defs k) b_w_next [some a0, some a1, some a2, none, none, none, none, none, none, none, none, none, none, none, none, none] μ) := callI_succ (d := d6) rfl rfl
theorem u_w_laid (k : Nat) (a0 a1 : D) (μ : Mem) : callI defs (k + 1) F_w_laid [a0, a1] μ = fin .frz μ (evSs (callI defs k) b_w_laid [some a0, some a1, none, none, none, none, none, none, none] μ) := callI_succ (d := d7) rfl rfl
theorem u_w_priced (k : Nat) (a0 a1 a2 : D) (μ : Mem) : callI defs (k + 1) F_w_priced [a0, a1, a2] μ = fin .frz μ (evSs (callI defs k) b_w_priced [some a0, some a1, some a2, none, none, none, none, none, none, none, none, none, none, none, none, none, none, none] μ) := callI_succ (d := d8) rfl rfl
theorem u_w_begun_c (k : Nat) (a0 a1 : D) (μ : Mem) : callI defs (k + 1) F_w_begun_c [a0, a1] μ = fin .cell μ (evSs (callI defs k) b_w_begun_c [some a0, some a1, none, none] μ) := callI_succ (d := d9) rfl rfl
theorem ok_all : ∀ i e, tbl[i]? = some e → EntOk (sigB (sigOf tbl blts glo clss subs xfs) wks (wks.contains i)) e := by
  intro i e he
  match i, he with
  | 0, he => have he : some e0 = some e := he; cases he; exact ok0
  | 1, he => have he : some e1 = some e := he; cases he; exact ok1
  | 2, he => have he : some e2 = some e := he; cases he; exact ok2
  | 3, he => have he : some e3 = some e := he; cases he; exact ok3
  | 4, he => have he : some e4 = some e := he; cases he; exact ok4
  | 5, he => have he : some e5 = some e := he; cases he; exact ok5
  | 6, he => have he : some e6 = some e := he; cases he; exact ok6
  | 7, he => have he : some e7 = some e := he; cases he; exact ok7
  | 8, he => have he : some e8 = some e := he; cases he; exact ok8
  | 9, he => have he : some e9 = some e := he; cases he; exact ok9
  | n + 10, he => simp [tbl] at he -- ok
def fuel : Nat := 40
local macro_rules | `(tactic| walk_at "mi") => `(tactic| simp (disch := omega) only [evSs, evS, evE, evEs, evEo, evI, evC, bnd_ap, pur_ap, lift_ap, outO_ap, andThen_ap, toB_ap, ite_ap, ite_apO, List.getElem?_cons_zero, List.getElem?_cons_succ, List.set_cons_zero, List.set_cons_succ, asgT, asgTs, tupOf, tyOf, isiD, isAny, isB, cmpD, binD, bI_add, bI_sub, bI_mulr, bI_mull, bI_fdiv, bI_mod, bI_p6, bI_p9, bI_p10, bI_p12, bI_p18, bI_p20, bI_p30, toI, cmpI, bfnD, lstOf, watchL, rngM0_ok, rngM_ok, ixD, dctOf, dctTOf, idx, tupIs, toIs, wipeD, List.map_cons, List.map_nil, List.length_map, List.length_append, List.append_assoc, List.append_nil, List.length_cons, List.length_nil, fin, leave_t0, mkTup, toTs, scalD, memD, MI.isNon, MI.keyOf, Option.map_some, Bool.false_eq_true, if_true, if_false, reduceIte, Bool.or_false, Bool.or_true, Bool.not_true, Bool.not_false, Bool.and_true, Bool.true_and, Bool.and_false, Bool.false_and,
  Nat.reduceAdd, Int.cast_ofNat_Int, Int.reduceLE, Int.reduceLT, Int.reduceNeg, Int.reduceToNat, Int.reduceBEq, Option.bind_some, Int.le_refl, beq_self_eq_true, decide_true, decide_false, setD, List.getElem?_set_self, List.set_set, mthD, tyChk, mthT, List.nil_append, List.cons_append, Nat.reduceLeDiff, Int.reduceMul, Int.reducePow, Nat.reducePow, and_self, and_true, true_and, false_and, and_false, getA, getA0, setA, setA0, mkL, sizeLine_eq, Nat.reduceLT, decide_eq_true_eq, Bool.and_eq_true, Bool.or_eq_true, *])
local macro_rules | `(tactic| walk_at "mj") => `(tactic| simp (disch := omega) only [evSs, evS, evE, evEs, evEo, evI, evC, bnd_ap, pur_ap, lift_ap, outO_ap, andThen_ap, toB_ap, ite_ap, ite_apO, List.getElem?_cons_zero, List.getElem?_cons_succ, List.set_cons_zero, List.set_cons_succ, asgT, asgTs, tupOf, tyOf, isiD, isAny, isB, cmpD, binD, bI_add, bI_sub, bI_mulr, bI_mull, bI_fdiv, bI_mod, bI_p6, bI_p9, bI_p10, bI_p12, bI_p18, bI_p20, bI_p30, toI, cmpI, lstOf, watchL, rngM0_ok, rngM_ok, ixD, dctOf, dctTOf, idx, tupIs, toIs, wipeD, List.map_cons, List.map_nil, List.length_map, List.length_append, List.append_assoc, List.append_nil, List.length_cons, List.length_nil, fin, leave_t0, mkTup, toTs, scalD, MI.isNon, MI.keyOf, Option.map_some, Bool.false_eq_true, if_true, if_false, reduceIte, Bool.or_false, Bool.or_true, Bool.not_true, Bool.not_false, Bool.and_true, Bool.true_and, Bool.and_false, Bool.false_and,
  Nat.reduceAdd, Int.cast_ofNat_Int, Int.reduceLE, Int.reduceLT, Int.reduceNeg, Int.reduceToNat, Int.reduceBEq, Option.bind_some, Int.le_refl, beq_self_eq_true, decide_true, decide_false, setD, List.getElem?_set_self, List.set_set, mthD, tyChk, mthT, List.nil_append, List.cons_append, Nat.reduceLeDiff, Int.reduceMul, Int.reducePow, Nat.reducePow, and_self, and_true, true_and, false_and, and_false, getA, getA0, setA, setA0, mkL, sizeLine_eq, Nat.reduceLT, decide_eq_true_eq, Bool.and_eq_true, Bool.or_eq_true, *])
local macro_rules | `(tactic| walk_at "mk") => `(tactic| simp (disch := omega) only [evSs, evS, evE, evEs, evEo, evI, evC, bnd_ap, pur_ap, lift_ap, outO_ap, andThen_ap, toB_ap, ite_ap, ite_apO, List.getElem?_cons_zero, List.getElem?_cons_succ, List.set_cons_zero, List.set_cons_succ, asgT, asgTs, tuO_tup, tuO_tp, tO_non, tO_bl, tO_int, tO_str, tO_lst, tO_tup, tO_dct, tO_tp, tO_ref, isiD, isAny, isB, cmpD, binD, bI_add, bI_sub, bI_mulr, bI_mull, bI_fdiv, bI_mod, bI_p6, bI_p9, bI_p10, bI_p12, bI_p18, bI_p20, bI_p30, toI, cmpI, lO_lst, lO_scr, lO_tup, lO_dct, lO_int, lO_str, lO_non, lO_bl, lO_tp, lO_ref, wL_ref, wL_t, rngM0_ok, rngM_ok, ixD, dO_lst, dO_dct, dO_ref, dO_tup, dTO_lst, dTO_dcT, dTO_ref, dTO_tup, idx, tupIs, toIs, wipeD, List.map_cons, List.map_nil, List.length_map, List.length_append, List.append_assoc, List.append_nil, List.length_cons, List.length_nil, fin, leave_t0, mkTup, toTs, scalD, MI.isNon, MI.keyOf, Option.map_some, Bool.false_eq_true, if_true, if_false, reduceIte, Bool.or_false, Bool.or_true, Bool.not_true, Bool.not_false, Bool.and_true, Bool.true_and, Bool.and_false, Bool.false_and,
  Nat.reduceAdd, Int.cast_ofNat_Int, Int.reduceLE, Int.reduceLT, Int.reduceNeg, Int.reduceToNat, Int.reduceBEq, Option.bind_some, Int.le_refl, beq_self_eq_true, decide_true, decide_false, setD, List.getElem?_set_self, List.set_set, mthD, tyChk, mthT, List.nil_append, List.cons_append, Nat.reduceLeDiff, Int.reduceMul, Int.reducePow, Nat.reducePow, and_self, and_true, true_and, false_and, and_false, getA, getA0, setA, setA0, mkL, sizeLine_eq, Nat.reduceLT, decide_eq_true_eq, Bool.and_eq_true, Bool.or_eq_true, *])
/-! ### the draws' state: a cell, behind A -/
structure St where
  a : Int
  b : Int
  f : Bool
def stC (s : St) : Cell := .lst [.t (.int s.a), .t (.int s.b), .t (.bl s.f)]
theorem back_st (A : Mem) (s s' : St) (ν κ : Mem) : OkBack (A ++ stC s :: ν) (A ++ stC s' :: (ν ++ κ)) := ⟨by simp, fun c hc => by
  by_cases h : c < A.length
  · exact .inl (by rw [List.getElem?_append_left h, List.getElem?_append_left h])
  · obtain ⟨d, rfl⟩ : ∃ d, c = A.length + d := ⟨c - A.length, by omega⟩
    rw [getA, getA]
    cases d with
    | zero => exact .inr ⟨stC s', rfl, rfl⟩
    | succ d =>
      refine .inl ?_
      simp only [List.getElem?_cons_succ]
      exact List.getElem?_append_left (by simp at hc; omega)⟩
theorem take_st (A : Mem) (s s' : St) (ν κ : Mem) : (A ++ stC s' :: (ν ++ κ)).take (A ++ stC s :: ν).length = A ++ stC s' :: ν := by
  rw [show A ++ stC s' :: (ν ++ κ) = (A ++ stC s' :: ν) ++ κ from by simp, show (A ++ stC s :: ν).length = (A ++ stC s' :: ν).length from by simp, List.take_left]
theorem leave_s (A : Mem) (s s' : St) (ν κ : Mem) (t : T) : leave .frz (A ++ stC s :: ν) (.t t) (A ++ stC s' :: (ν ++ κ)) = .ok (.t t) (A ++ stC s' :: ν) := by
  unfold leave
  rw [if_pos (back_st A s s' ν κ)]
  simp only [frzD, take_st]
theorem leave_s0 (A : Mem) (s s' : St) (ν : Mem) (t : T) : leave .frz (A ++ stC s :: ν) (.t t) (A ++ stC s' :: ν) = .ok (.t t) (A ++ stC s' :: ν) := by
  have := leave_s A s s' ν [] t
  rwa [List.append_nil] at this
theorem leave_sl (A : Mem) (s s' : St) (ν κ : Mem) (i : Nat) (ts : List T) (h : κ[i]? = some (.lst (ts.map D.t))) : leave .frz (A ++ stC s :: ν) (.ref (A.length + (ν.length + 1 + i))) (A ++ stC s' :: (ν ++ κ)) = .ok (.t (.lst ts)) (A ++ stC s' :: ν) := by
  have e : (A ++ stC s' :: (ν ++ κ))[A.length + (ν.length + 1 + i)]? = some (.lst (ts.map D.t)) := by
    rw [getA, show ν.length + 1 + i = (ν.length + i) + 1 from by omega, List.getElem?_cons_succ, getA, h]
  have e2 : frzD (A ++ stC s' :: (ν ++ κ)) (A ++ stC s :: ν).length 4 (.ref (A.length + (ν.length + 1 + i))) = some (.lst ts) := frzD_lst (k := 3) (by simp) e
  unfold leave
  rw [if_pos (back_st A s s' ν κ)]
  simp only [e2, take_st]
theorem leave_sl0 (A : Mem) (s s' : St) (ν κ : Mem) (ts : List T) : leave .frz (A ++ stC s :: ν) (.ref (A.length + (ν.length + 1))) (A ++ stC s' :: (ν ++ (.lst (ts.map D.t) :: κ))) = .ok (.t (.lst ts)) (A ++ stC s' :: ν) := leave_sl A s s' ν _ 0 ts rfl
/-! ### places and ties -/
abbrev PL := List (Int × Int)
def pT (p : Int × Int) : T := .tup [.int p.1, .int p.2]
def plT (ps : PL) : T := .lst (ps.map pT)
def webT (ps ts : PL) : T := .tup [plT ps, plT ts]
def iT (ns : List Int) : T := .lst (ns.map T.int)
def endN (l : Int) (ps : PL) : Int := ps.foldl (fun _ p => p.1) l
theorem endN_snoc (l : Int) (ps : PL) (p : Int × Int) : endN l (ps ++ [p]) = p.1 := by simp [endN]
/-- rising, no step over 23 -/
def RisB : Int → PL → Prop
  | _, [] => True
  | l, p :: r => l < p.1 ∧ p.1 ≤ l + 23 ∧ RisB p.1 r
/-- prices from 1 to 10^9 -/
def PrB (ps : PL) : Prop := ∀ p ∈ ps, 1 ≤ p.2 ∧ p.2 ≤ 1000000000
theorem PrB.nil : PrB [] := fun p h => by cases h
theorem RisB.snoc : ∀ {ps : PL} {l : Int} {p : Int × Int}, RisB l ps → endN l ps < p.1 → p.1 ≤ endN l ps + 23 → RisB l (ps ++ [p])
  | [], l, p, _, h1, h2 => ⟨h1, h2, trivial⟩
  | q :: r, l, p, h, h1, h2 => ⟨h.1, h.2.1, RisB.snoc h.2.2 h1 h2⟩
theorem PrB.snoc {ps : PL} {p : Int × Int} (h : PrB ps) (h1 : 1 ≤ p.2) (h2 : p.2 ≤ 1000000000) : PrB (ps ++ [p]) := fun q hq => by
  rcases List.mem_append.mp hq with hq | hq
  · exact h q hq
  · obtain rfl : q = p := by simpa using hq
    exact ⟨h1, h2⟩
theorem pick4 {i : Int} {a b c d : Int} (h0 : 0 ≤ i) (h1 : i < 4) : ∃ v, ([D.t (.int a), D.t (.int b), D.t (.int c), D.t (.int d)] : List D)[i.toNat]? = some (.t (.int v)) ∧ (v = a ∨ v = b ∨ v = c ∨ v = d) := by
  have : i = 0 ∨ i = 1 ∨ i = 2 ∨ i = 3 := by omega
  rcases this with rfl | rfl | rfl | rfl
  · exact ⟨a, rfl, .inl rfl⟩
  · exact ⟨b, rfl, .inr (.inl rfl)⟩
  · exact ⟨c, rfl, .inr (.inr (.inl rfl))⟩
  · exact ⟨d, rfl, .inr (.inr (.inr rfl))⟩
theorem leave_st (A : Mem) (s s' : St) (ν κ : Mem) (i : Nat) (x : T) (ts : List T) (h : κ[i]? = some (.lst (ts.map D.t))) : leave .frz (A ++ stC s :: ν) (.tp [.t x, .ref (A.length + (ν.length + 1 + i))]) (A ++ stC s' :: (ν ++ κ)) = .ok (.t (.tup [x, .lst ts])) (A ++ stC s' :: ν) := by
  have e : (A ++ stC s' :: (ν ++ κ))[A.length + (ν.length + 1 + i)]? = some (.lst (ts.map D.t)) := by
    rw [getA, show ν.length + 1 + i = (ν.length + i) + 1 from by omega, List.getElem?_cons_succ, getA, h]
  have e2 : frzD (A ++ stC s' :: (ν ++ κ)) (A ++ stC s :: ν).length 4 (.tp [.t x, .ref (A.length + (ν.length + 1 + i))]) = some (.tup [x, .lst ts]) := by
    have := frzD_lst (k := 2) (μ := A ++ stC s' :: (ν ++ κ)) (n := (A ++ stC s :: ν).length) (c := A.length + (ν.length + 1 + i)) (by simp) e
    simp only [frzD, List.mapM_cons, List.mapM_nil] at this ⊢
    rw [this]
    rfl
  unfold leave
  rw [if_pos (back_st A s s' ν κ)]
  simp only [e2, take_st]
theorem c_w_take {k : Nat} (hk : 1 ≤ k) (A : Mem) (s : St) (m : Int) (ν : Mem) (hm : 0 < m) (hm2 : m < 1073741824) :
    ∃ d s', 0 ≤ d ∧ d < m ∧ callI defs k F_w_take [.ref A.length, .t (.int m)] (A ++ stC s :: ν) = .ok (.t (.int d)) (A ++ stC s' :: ν) := by
  obtain ⟨k, rfl, hk⟩ := callI_at (defs := defs) (f := 0) hk
  rw [u_w_take]
  obtain ⟨a, b, f⟩ := s
  cases f with
  | true =>
    refine ⟨a % m, ⟨a / m, b, decide (0 < a / m)⟩, Int.emod_nonneg _ (by omega), Int.emod_lt_of_pos _ hm, ?_⟩
    rw [b_w_take, stC]
    walk_at "mi"
    exact leave_s0 A ⟨a, b, true⟩ ⟨a / m, b, decide (0 < a / m)⟩ ν _
  | false =>
    have main : ∃ x y, fin .frz (A ++ stC ⟨a, b, false⟩ :: ν) (evSs (callI defs k) b_w_take [some (.ref A.length), some (.t (.int m)), none, none] (A ++ stC ⟨a, b, false⟩ :: ν)) = .ok (.t (.int (x % m))) (A ++ stC ⟨a, y, false⟩ :: ν) := by
      rw [b_w_take, stC]
      by_cases hb : 1000000 < m
      · refine ⟨((b * 48271 + 39373) % 2147483647) * ((b * 48271 + 39373) % 2147483647) % 2147483629 / 16 * 2147483629 + ((b * 48271 + 39373) % 2147483647 * 48271 + 39373) % 2147483647, ((b * 48271 + 39373) % 2147483647 * 48271 + 39373) % 2147483647, ?_⟩
        walk_at "mi"
        exact leave_s0 A ⟨a, b, false⟩ ⟨a, _, false⟩ ν _
      · refine ⟨((b * 48271 + 39373) % 2147483647) * ((b * 48271 + 39373) % 2147483647) % 2147483629 / 16, (b * 48271 + 39373) % 2147483647, ?_⟩
        walk_at "mi"
        exact leave_s0 A ⟨a, b, false⟩ ⟨a, _, false⟩ ν _
    obtain ⟨x, y, e⟩ := main
    exact ⟨x % m, ⟨a, y, false⟩, Int.emod_nonneg _ (by omega), Int.emod_lt_of_pos _ hm, e⟩
theorem c_w_begun_c {k : Nat} (hk : 1 ≤ k) (ns : List Int) (hn : ns.length ≤ 63) (j : Int) (hj : 0 ≤ j) (μ : Mem) :
    ∃ s, callI defs k F_w_begun_c [.t (.scr ns), .t (.int j)] μ = .ok (.ref μ.length) (μ ++ [stC s]) := by
  obtain ⟨k, rfl, hk⟩ := callI_at (defs := defs) (f := 0) hk
  rw [u_w_begun_c, b_w_begun_c]
  by_cases h : j < (ns.length : Int)
  · have h1 : j.toNat < ns.length := by omega
    have hx : (ns.map fun n => D.t (.int n))[j.toNat]? = some (.t (.int ns[j.toNat])) := by rw [List.getElem?_map, List.getElem?_eq_getElem h1]; rfl
    refine ⟨⟨ns[j.toNat], (ns[j.toNat] % 2147483629 + 104729 * j + 7919 * (j / 7)) % 2147483629, decide (1000000000000000000 ≤ ns[j.toNat])⟩, ?_⟩
    walk_at "mi"
    exact leave_c0 μ _ [.int _, .int _, .bl _] rfl
  · refine ⟨⟨0, (0 % 2147483629 + 104729 * j + 7919 * (j / 7)) % 2147483629, decide ((1000000000000000000 : Int) ≤ 0)⟩, ?_⟩
    walk_at "mi"
    exact leave_c0 μ _ [.int _, .int _, .bl _] rfl
theorem any_eqF {ns : List Int} {i : Int} (h : i ∈ ns) : (ns.map T.int).any (fun y => eqF y (.int i)) = true := by
  rw [List.any_eq_true]
  exact ⟨.int i, List.mem_map_of_mem h, by simp [eqF]⟩
theorem all_flat (ns : List Int) : (ns.map T.int).all flatT = true := by
  rw [List.all_eq_true]
  intro x hx
  obtain ⟨i, _, rfl⟩ := List.mem_map.mp hx
  rfl
/-- i among ns, as the text asks it -/
def mI (ns : List Int) (i : Int) : Bool := (ns.map T.int).any (fun y => eqF y (.int i))
def leftP (ns : List Int) (t : Int × Int) : Bool := !mI ns t.1 && !mI ns t.2
theorem mem_mI (ns : List Int) (i : Int) (μ : Mem) : memD (.t (.int i)) (.t (iT ns)) μ = some (mI ns i) := by
  have h1 := toTs_of (ns.map T.int)
  have h2 := all_flat ns
  have h3 : flatT (.int i) = true := rfl
  simp only [memD, iT, dctOf, dctTOf, lstOf, h1, h2, h3, Bool.and_self, if_true, mI]
theorem nmem_ev {F : Orac} {a b : E} {env : Envv} {μ : Mem} {ns : List Int} {i : Int} (h1 : evE F a env μ = .ok (.t (.int i)) μ) (h2 : evE F b env μ = .ok (.t (iT ns)) μ) : evE F (.cmp .nmem a b) env μ = .ok (.t (.bl (!mI ns i))) μ := by
  simp only [evE, bnd_ap, h1, h2, cmpD, mem_mI]
theorem mem_ev {F : Orac} {a b : E} {env : Envv} {μ : Mem} {ns : List Int} {i : Int} (h1 : evE F a env μ = .ok (.t (.int i)) μ) (h2 : evE F b env μ = .ok (.t (iT ns)) μ) : evE F (.cmp .mem a b) env μ = .ok (.t (.bl (mI ns i))) μ := by
  simp only [evE, bnd_ap, h1, h2, cmpD, mem_mI]
theorem and_ev {F : Orac} {a b : E} {env : Envv} {μ : Mem} {p q : Bool} (h1 : evE F a env μ = .ok (.t (.bl p)) μ) (h2 : evE F b env μ = .ok (.t (.bl q)) μ) : evE F (.and a b) env μ = .ok (.t (.bl (p && q))) μ := by
  simp only [evE, bnd_ap, h1, toB_ap]
  cases p
  · rfl
  · simp only [if_true, h2, Bool.true_and]
theorem or_ev {F : Orac} {a b : E} {env : Envv} {μ : Mem} {p q : Bool} (h1 : evE F a env μ = .ok (.t (.bl p)) μ) (h2 : evE F b env μ = .ok (.t (.bl q)) μ) : evE F (.or a b) env μ = .ok (.t (.bl (p || q))) μ := by
  simp only [evE, bnd_ap, h1, toB_ap]
  cases p
  · simp only [Bool.false_eq_true, if_false, h2, Bool.false_or]
  · rfl
theorem ints_map (ns : List Int) : (ns.map T.int).map D.t = ns.map fun n => D.t (.int n) := by
  rw [List.map_map]
  rfl
theorem mI_iff {ns : List Int} {i : Int} : mI ns i = true ↔ i ∈ ns := by
  simp only [mI, List.any_eq_true, List.mem_map]
  constructor
  · rintro ⟨_, ⟨j, hj, rfl⟩, h⟩
    simp only [eqF, beq_iff_eq, decide_eq_true_eq] at h
    exact h ▸ hj
  · exact fun h => ⟨_, ⟨i, h, rfl⟩, by simp [eqF]⟩
/-- d stands for the list of whole numbers ns: frozen, or in a cell -/
structure LD (μ : Mem) (d : D) (ns : List Int) : Prop where
  lst : lstOf μ d = some (ns.map fun n => D.t (.int n))
  ty : tyOf μ d = some .lst
  mem : ∀ i, memD (.t (.int i)) d μ = some (mI ns i)
  wat : WOk μ (watchL d (ns.map fun n => D.t (.int n)))
theorem LD.frz (μ : Mem) (ns : List Int) : LD μ (.t (iT ns)) ns := ⟨by simp only [lstOf, iT, ints_map], rfl, fun i => mem_mI ns i μ, wok_nil _⟩
theorem LD.cel {μ : Mem} {c : Nat} {ns : List Int} (h : μ[c]? = some (.lst (ns.map fun n => D.t (.int n)))) : LD μ (.ref c) ns := ⟨by simp only [lstOf, h], by simp only [tyOf, h], fun i => by
  have h1 := toTs_of (ns.map T.int)
  rw [ints_map] at h1
  have h2 := all_flat ns
  have h3 : flatT (.int i) = true := rfl
  simp only [memD, dctOf, dctTOf, lstOf, h, h1, h2, h3, Bool.and_self, if_true, mI], fun p hp => by
  have e : p = (c, ns.map fun n => D.t (.int n)) := by simpa [watchL] using hp
  rw [e]
  exact h⟩
theorem LD.nmem {F : Orac} {a b : E} {env : Envv} {μ : Mem} {ns : List Int} {d : D} {i : Int} (h : LD μ d ns) (h1 : evE F a env μ = .ok (.t (.int i)) μ) (h2 : evE F b env μ = .ok d μ) : evE F (.cmp .nmem a b) env μ = .ok (.t (.bl (!mI ns i))) μ := by
  simp only [evE, bnd_ap, h1, h2, cmpD, h.mem]
theorem LD.imem {F : Orac} {a b : E} {env : Envv} {μ : Mem} {ns : List Int} {d : D} {i : Int} (h : LD μ d ns) (h1 : evE F a env μ = .ok (.t (.int i)) μ) (h2 : evE F b env μ = .ok d μ) : evE F (.cmp .mem a b) env μ = .ok (.t (.bl (mI ns i))) μ := by
  simp only [evE, bnd_ap, h1, h2, cmpD, h.mem]
theorem ife_true {F : Orac} {c : E} {a b : Ss} {env : Envv} {μ : Mem} (h : evE F c env μ = .ok (.t (.bl true)) μ) : evS F (.ife c a b) env μ = evSs F a env μ := by
  simp only [evS, lift, bnd_ap, h, toB_ap, if_true]
theorem ife_false {F : Orac} {c : E} {a b : Ss} {env : Envv} {μ : Mem} (h : evE F c env μ = .ok (.t (.bl false)) μ) : evS F (.ife c a b) env μ = evSs F b env μ := by
  simp only [evS, lift, bnd_ap, h, toB_ap, Bool.false_eq_true, if_false]
theorem not_ev {F : Orac} {a : E} {env : Envv} {μ : Mem} {p : Bool} (h : evE F a env μ = .ok (.t (.bl p)) μ) : evE F (.not a) env μ = .ok (.t (.bl (!p))) μ := by
  simp only [evE, bnd_ap, h, toB_ap]
  rfl
/-- a loop that stops at x: it is left by the outcome o -/
theorem for_stop {α : Type} {tg : Tg} {b : Envv → MO} {w : Watch} (g : α → D) (P : Envv → Mem → Prop) (o : Out) (μe : Mem) (ho : ∀ e, o ≠ .nx e) (ho2 : ∀ e, o ≠ .ct e) (ho3 : ∀ e, o ≠ .bk e) (hw : ∀ env μ, P env μ → WOk μ w) : ∀ (pre : List α) (x : α) (post : List α)
    (_ : ∀ y ∈ pre, ∀ env μ, P env μ → ∃ env1, asgT tg (g y) env = some env1 ∧ ∃ env' μ', b env1 μ = some (.nx env', μ') ∧ P env' μ') (_ : ∀ env μ, P env μ → ∃ env1, asgT tg (g x) env = some env1 ∧ b env1 μ = some (o, μe)) {env : Envv} {μ : Mem} (_ : P env μ),
    forLoop tg b w ((pre ++ x :: post).map g) env μ = some (o, μe)
  | [], x, post, _, hx, env, μ, h0 => by
    obtain ⟨env1, e1, e2⟩ := hx env μ h0
    simp only [List.nil_append, List.map_cons, forLoop, if_pos (hw _ _ h0), e1, e2]
    cases o with
    | nx e => exact absurd rfl (ho e)
    | ct e => exact absurd rfl (ho2 e)
    | bk e => exact absurd rfl (ho3 e)
    | rt d => rfl
    | ex y e => rfl
  | y :: pre, x, post, hs, hx, env, μ, h0 => by
    obtain ⟨env1, e1, env', μ', e2, h1⟩ := hs y (by simp) env μ h0
    have ih := for_stop g P o μe ho ho2 ho3 hw pre x post (fun z hz => hs z (by simp [hz])) hx h1
    simp only [List.cons_append, List.map_cons, forLoop, if_pos (hw _ _ h0), e1, e2]
    exact ih
/-- the first that is not so -/
theorem first_not {α : Type} (p : α → Bool) : ∀ (l : List α), l.all p = false → ∃ pre x post, l = pre ++ x :: post ∧ (∀ y ∈ pre, p y = true) ∧ p x = false
  | [], h => by simp at h
  | a :: l, h => by
    cases ha : p a with
    | false => exact ⟨[], a, l, rfl, fun y hy => (by cases hy), ha⟩
    | true =>
      rw [List.all_cons, ha, Bool.true_and] at h
      obtain ⟨pre, x, post, e, h1, h2⟩ := first_not p l h
      exact ⟨a :: pre, x, post, by rw [e]; rfl, fun y hy => by
        rcases List.mem_cons.mp hy with rfl | hy
        · exact ha
        · exact h1 y hy, h2⟩
theorem leaveX0 (μ : Mem) (x : Exn) : leaveX μ x μ = .ex x μ := by
  unfold leaveX
  rw [if_pos (back_refl μ), List.take_length]
theorem leaveX1 (μ ν : Mem) (x : Exn) : leaveX μ x (μ ++ ν) = .ex x μ := by
  unfold leaveX
  rw [if_pos (back_app μ ν), List.take_left]
theorem leave_k (μ ν : Mem) (d : D) : leave .keep μ d (μ ++ ν) = .ok d (μ ++ ν) := by
  unfold leave
  rw [if_pos (back_app μ ν)]
theorem or_t {F : Orac} {a b : E} {env : Envv} {μ : Mem} (h1 : evE F a env μ = .ok (.t (.bl true)) μ) : evE F (.or a b) env μ = .ok (.t (.bl true)) μ := by
  simp only [evE, bnd_ap, h1, toB_ap, if_true]
  rfl
theorem and_f {F : Orac} {a b : E} {env : Envv} {μ : Mem} (h1 : evE F a env μ = .ok (.t (.bl false)) μ) : evE F (.and a b) env μ = .ok (.t (.bl false)) μ := by
  simp only [evE, bnd_ap, h1, toB_ap, Bool.false_eq_true, if_false]
  rfl
theorem comp_st {α : Type} {tg : Tg} {env : Envv} {c : Envv → M Bool} {el : Envv → M D} {w : Watch} (g : α → D) (xs : List α) (P : List α → List D → Mem → Prop) {acc0 : List D} {μ0 : Mem} (h0 : P [] acc0 μ0) (hw : ∀ pre acc μ, P pre acc μ → WOk μ w)
    (hs : ∀ pre x post acc μ, xs = pre ++ x :: post → P pre acc μ → ∃ env', asgT tg (g x) env = some env' ∧ ∃ b μ1, c env' μ = .ok b μ1 ∧ (b = true → ∃ d μ2, el env' μ1 = .ok d μ2 ∧ P (pre ++ [x]) (acc ++ [d]) μ2) ∧ (b = false → P (pre ++ [x]) acc μ1)) :
    ∃ acc' μ', compLoop tg env c el w (xs.map g) acc0 μ0 = .ok acc' μ' ∧ P xs acc' μ' := by
  have main : ∀ (post pre : List α) (acc : List D) (μ : Mem), xs = pre ++ post → P pre acc μ → ∃ acc' μ', compLoop tg env c el w (post.map g) acc μ = .ok acc' μ' ∧ P xs acc' μ' := by
    intro post
    induction post with
    | nil =>
      intro pre acc μ e p
      rw [List.append_nil] at e
      subst e
      refine ⟨acc, μ, ?_, p⟩
      simp only [List.map_nil, compLoop, if_pos (hw _ _ _ p)]
    | cons x post ih =>
      intro pre acc μ e p
      obtain ⟨env', e1, b, μ1, e2, hb1, hb2⟩ := hs pre x post acc μ e p
      cases b with
      | true =>
        obtain ⟨d, μ2, e3, p2⟩ := hb1 rfl
        obtain ⟨acc', μ', e4, p3⟩ := ih (pre ++ [x]) (acc ++ [d]) μ2 (by rw [e]; simp) p2
        refine ⟨acc', μ', ?_, p3⟩
        simp only [List.map_cons, compLoop, if_pos (hw _ _ _ p), e1, bnd, e2, noEx, if_true, e3, e4]
      | false =>
        obtain ⟨acc', μ', e4, p3⟩ := ih (pre ++ [x]) acc μ1 (by rw [e]; simp) (hb2 rfl)
        refine ⟨acc', μ', ?_, p3⟩
        simp only [List.map_cons, compLoop, if_pos (hw _ _ _ p), e1, bnd, e2, noEx, Bool.false_eq_true, if_false, e4]
  exact main xs [] acc0 μ0 rfl h0
theorem ev_st {α : Type} {F : Orac} {own : List (Str × Nat)} {tg : Tg} {it : MI.It} {ifs : Es} {e : E} {env : Envv} {μ : Mem} {w : Watch} (g : α → D) (xs : List α) (P : List α → List T → Mem → Prop) (hi : evI F it env μ = .ok (xs.map g, w) μ) (hl : xs.length ≤ sizeLine) (h0 : P [] [] μ) (hw : ∀ pre acc μ, P pre acc μ → WOk μ w) (hz : ∀ acc μ, P xs acc μ → acc.length ≤ sizeLine)
    (hs : ∀ pre x post acc μ, xs = pre ++ x :: post → P pre acc μ → ∃ env', asgT tg (g x) (wipeD env (own.map (·.2))) = some env' ∧ ∃ b μ1, evC F ifs env' μ = .ok b μ1 ∧ (b = true → ∃ t μ2, evE F e env' μ1 = .ok (.t t) μ2 ∧ P (pre ++ [x]) (acc ++ [t]) μ2) ∧ (b = false → P (pre ++ [x]) acc μ1)) :
    ∃ acc μ', evE F (.comp true own tg it ifs e) env μ = .ok (.t (.lst acc)) μ' ∧ P xs acc μ' := by
  obtain ⟨acc', μ', e1, ts, rfl, p⟩ := comp_st (tg := tg) (env := wipeD env (own.map (·.2))) (c := fun env => evC F ifs env) (el := fun env => evE F e env) (w := w) g xs (fun pre acc μ => ∃ ts : List T, acc = ts.map D.t ∧ P pre ts μ) (acc0 := []) (μ0 := μ) ⟨[], rfl, h0⟩ (fun pre acc μ ⟨ts, _, p⟩ => hw pre ts μ p) (fun pre x post acc μ hx ⟨ts, ea, p⟩ => by
    obtain ⟨env', e1, b, μ1, e2, h1, h2⟩ := hs pre x post ts μ hx p
    refine ⟨env', e1, b, μ1, e2, fun hb => ?_, fun hb => ⟨ts, ea, h2 hb⟩⟩
    obtain ⟨t, μ2, e3, p2⟩ := h1 hb
    exact ⟨.t t, μ2, e3, ts ++ [t], by rw [ea]; simp, p2⟩)
  refine ⟨ts, μ', ?_, p⟩
  simp only [evE, bnd_ap, hi, List.length_map, if_pos hl]
  rw [e1]
  simp only []
  rw [mkL_t _ _ (hz _ _ p)]
theorem leave_ci (μ : Mem) (ts : List T) : leave .cell μ (.ref μ.length) (μ ++ [.lst (ts.map D.t)]) = .ok (.ref μ.length) (μ ++ [.lst (ts.map D.t)]) := leave_c0 μ _ ts rfl
theorem ev_compc {α : Type} {F : Orac} {own : List (Str × Nat)} {tg : Tg} {it : MI.It} {ifs : Es} {e : E} {env : Envv} {μ : Mem} {w : Watch} (g : α → D) (xs : List α) (p : α → Bool) (f : α → T) (hi : evI F it env μ = .ok (xs.map g, w) μ) (hl : xs.length ≤ sizeLine) (hw : WOk μ w)
    (h : ∀ x ∈ xs, ∃ env', asgT tg (g x) (wipeD env (own.map (·.2))) = some env' ∧ evC F ifs env' μ = .ok (p x) μ ∧ (p x = true → evE F e env' μ = .ok (.t (f x)) μ)) :
    evE F (.comp false own tg it ifs e) env μ = .ok (.ref μ.length) (μ ++ [.lst (((xs.filter p).map f).map D.t)]) := by
  have e1 := comp_run (tg := tg) (env := wipeD env (own.map (·.2))) (c := fun env => evC F ifs env) (el := fun env => evE F e env) (w := w) g xs p f hw h []
  simp only [evE, bnd_ap, hi, List.length_map, if_pos hl]
  rw [e1]
  simp only [List.nil_append]
  rw [mkL_c]
  exact Nat.le_trans (by rw [List.length_map, List.length_map]; exact List.length_filter_le _ _) hl
theorem leave_law (μ : Mem) (t : T) : leave .frz [] (.t t) μ = .ok (.t t) [] := by
  unfold leave
  rw [if_pos ⟨by simp, fun c hc => by simp at hc⟩]
  simp [frzD]
/-! ### chains -/
inductive Ch where | lo (p : Int) | be (u v : Int) | ti (u v : Int)
def cT : Ch → T
  | .lo p => .tup [.str "loose", .int p]
  | .be u v => .tup [.str "beside", .int u, .int v]
  | .ti u v => .tup [.str "tight", .int u, .int v]
def isBe : Ch → Bool
  | .be _ _ => true
  | _ => false
def laC : Ch → Int
  | .lo p => p
  | .be _ v => v
  | .ti _ v => v
def insC (ch : List Ch) : List Int := (ch.filter isBe).map laC
def outC (ch : List Ch) : List Int := (ch.filter fun c => !isBe c).map laC
def ssI (ns : List Int) : List Int := sortI (dedI ns)
/-! lists in a cell or frozen -/
structure LT (μ : Mem) (d : D) (L : List T) : Prop where
  lst : lstOf μ d = some (L.map D.t)
  lsn : lstN μ d = some (L.map D.t)
  ty : tyOf μ d = some .lst
  wat : WOk μ (watchL d (L.map D.t))
theorem LT.frz (μ : Mem) (L : List T) : LT μ (.t (.lst L)) L := ⟨rfl, rfl, rfl, wok_nil _⟩
theorem LT.cel {μ : Mem} {c : Nat} {L : List T} (h : μ[c]? = some (.lst (L.map D.t))) : LT μ (.ref c) L := ⟨by simp only [lstOf, h], by simp only [lstN, lstOf, h], by simp only [tyOf, h], fun p hp => by
  have e : p = (c, L.map D.t) := by simpa [watchL] using hp
  rw [e]
  exact h⟩
theorem ch_eq (c : Ch) (μ : Mem) : ∃ s : Str, ixD (.t (cT c)) (.t (.int 0)) μ = .ok (.t (.str s)) μ ∧ decide (s = ("beside" : Str)) = isBe c := by
  have h1 : decide (("loose" : Str) = ("beside" : Str)) = false := by decide +kernel
  have h2 : decide (("beside" : Str) = ("beside" : Str)) = true := by decide +kernel
  have h3 : decide (("tight" : Str) = ("beside" : Str)) = false := by decide +kernel
  cases c with
  | lo p => exact ⟨"loose", rfl, h1⟩
  | be u v => exact ⟨"beside", rfl, h2⟩
  | ti u v => exact ⟨"tight", rfl, h3⟩
theorem ch_la (c : Ch) (μ : Mem) : ixD (.t (cT c)) (.t (.int (-1))) μ = .ok (.t (.int (laC c))) μ := by
  cases c <;> rfl
theorem ch_2 {c : Ch} (h : isBe c = true) (μ : Mem) : ixD (.t (cT c)) (.t (.int 2)) μ = .ok (.t (.int (laC c))) μ := by
  cases c with
  | be u v => rfl
  | lo p => cases h
  | ti u v => cases h
theorem seq_str (s t : Str) (μ : Mem) : cmpD .eq (.t (.str s)) (.t (.str t)) μ = .ok (.t (.bl (decide (s = t)))) μ := rfl
theorem sne_str (s t : Str) (μ : Mem) : cmpD .ne (.t (.str s)) (.t (.str t)) μ = .ok (.t (.bl (!decide (s = t)))) μ := rfl
theorem neg1 (μ : Mem) {F : Orac} {env : Envv} : evE F (.neg (.cst (.int 1))) env μ = .ok (.t (.int (-1))) μ := rfl
theorem ins_ev {F : Orac} {own : List (Str × Nat)} {x i : Nat} {env : Envv} {d : D} {ch : List Ch} {μ : Mem} (hx : env[x]? = some (some d)) (hd : LT μ d (ch.map cT)) (hl : ch.length ≤ 1000) (ho : ∀ c, (((wipeD env (own.map (·.2))).set i (some (.t (cT c)))))[i]? = some (some (.t (cT c)))) :
    evE F (.comp true own (.nm i) (.val (.var x)) (.cons (.cmp .eq (.ix (.var i) (.cst (.int 0))) (.cst (.str "beside"))) .nil) (.ix (.var i) (.cst (.int 2)))) env μ = .ok (.t (iT (insC ch))) μ := by
  have l1 := hd.lst
  have mp : ((ch.map cT).map D.t) = ch.map fun c => D.t (cT c) := by rw [List.map_map]; rfl
  have := ev_comp (F := F) (own := own) (tg := .nm i) (it := .val (.var x)) (ifs := .cons (.cmp .eq (.ix (.var i) (.cst (.int 0))) (.cst (.str "beside"))) .nil) (e := .ix (.var i) (.cst (.int 2))) (env := env) (μ := μ) (w := watchL d ((ch.map cT).map D.t)) (fun c : Ch => D.t (cT c)) ch isBe (fun c => T.int (laC c)) (by
    simp only [evI, evE, bnd_ap, hx, l1, mp]) (by rw [sizeLine_eq]; omega) hd.wat (fun c _ => ⟨_, rfl, by
      obtain ⟨s, e1, e2⟩ := ch_eq c μ
      have ho := ho c
      simp only [evC, evE, bnd_ap, pur_ap, ho, e1, seq_str, e2, toB_ap], fun hc => by
      have e1 := ch_2 hc μ
      have ho := ho c
      simp only [evE, bnd_ap, pur_ap, ho, e1]⟩)
  rw [iT, insC, List.map_map]
  exact this
theorem outs_ev {F : Orac} {own : List (Str × Nat)} {x i : Nat} {env : Envv} {d : D} {ch : List Ch} {μ : Mem} (hx : env[x]? = some (some d)) (hd : LT μ d (ch.map cT)) (hl : ch.length ≤ 1000) (ho : ∀ c, (((wipeD env (own.map (·.2))).set i (some (.t (cT c)))))[i]? = some (some (.t (cT c)))) :
    evE F (.comp true own (.nm i) (.val (.var x)) (.cons (.cmp .ne (.ix (.var i) (.cst (.int 0))) (.cst (.str "beside"))) .nil) (.ix (.var i) (.neg (.cst (.int 1))))) env μ = .ok (.t (iT (outC ch))) μ := by
  have l1 := hd.lst
  have mp : ((ch.map cT).map D.t) = ch.map fun c => D.t (cT c) := by rw [List.map_map]; rfl
  have := ev_comp (F := F) (own := own) (tg := .nm i) (it := .val (.var x)) (ifs := .cons (.cmp .ne (.ix (.var i) (.cst (.int 0))) (.cst (.str "beside"))) .nil) (e := .ix (.var i) (.neg (.cst (.int 1)))) (env := env) (μ := μ) (w := watchL d ((ch.map cT).map D.t)) (fun c : Ch => D.t (cT c)) ch (fun c => !isBe c) (fun c => T.int (laC c)) (by
    simp only [evI, evE, bnd_ap, hx, l1, mp]) (by rw [sizeLine_eq]; omega) hd.wat (fun c _ => ⟨_, rfl, by
      obtain ⟨s, e1, e2⟩ := ch_eq c μ
      have ho := ho c
      simp only [evC, evE, bnd_ap, pur_ap, ho, e1, sne_str, e2, toB_ap], fun hc => by
      have e1 := ch_la c μ
      have ho := ho c
      rw [evE, bnd_ap, evE, ho]
      simp only [bnd_ap, neg1, e1]⟩)
  rw [iT, outC, List.map_map]
  exact this
theorem insC_len (ch : List Ch) : (insC ch).length ≤ ch.length := by
  rw [insC, List.length_map]
  exact List.length_filter_le _ _
theorem outC_len (ch : List Ch) : (outC ch).length ≤ ch.length := by
  rw [outC, List.length_map]
  exact List.length_filter_le _ _
theorem ssI_len (ns : List Int) : (ssI ns).length ≤ ns.length := by
  rw [ssI, (sortI_perm _).length_eq]
  exact dedI_len ns
theorem sset_ev (fz : Bool) (ns : List Int) (μ : Mem) (h : ns.length < 64) : ssetD fz (.t (iT ns)) μ = mkL fz ((ssI ns).map fun n => D.t (.int n)) μ := by
  have e : (lstOf μ (.t (iT ns))).bind toIs = some ns := by
    simp only [iT, lO_lst, ints_map, Option.bind_some, toIs_of]
  simp only [ssetD, e, if_pos h, ssI]
theorem c_fixed_by {k : Nat} (hk : 1 ≤ k) {d : D} {ch : List Ch} {μ : Mem} (hd : LT μ d (ch.map cT)) (hl : ch.length < 64) : callI defs k F_fixed_by [d] μ = .ok (.t (.tup [iT (ssI (insC ch)), iT (ssI (outC ch))])) μ := by
  obtain ⟨k, rfl, hk⟩ := callI_at (defs := defs) (f := 0) hk
  rw [u_fixed_by, b_fixed_by]
  have h1 : evE (callI defs k) C_fixed_by_1 [some d, none, none, none] μ = .ok (.t (iT (insC ch))) μ := ins_ev rfl hd (by omega) (fun c => rfl)
  have h2 : ∀ x, evE (callI defs k) C_fixed_by_0 [some d, x, none, none] μ = .ok (.t (iT (outC ch))) μ := fun x => outs_ev rfl hd (by omega) (fun c => rfl)
  have li := insC_len ch
  have lo := outC_len ch
  have s1 := sset_ev true (insC ch) μ (by omega)
  have s2 := sset_ev true (outC ch) μ (by omega)
  have m : ∀ ns : List Int, ns.length ≤ 1000 → mkL true (ns.map fun n => D.t (.int n)) μ = .ok (.t (iT ns)) μ := fun ns h => by
    rw [← ints_map]
    exact mkL_t _ _ (by rw [sizeLine_eq, List.length_map]; omega)
  have m1 := m (ssI (insC ch)) (by have := ssI_len (insC ch); omega)
  have m2 := m (ssI (outC ch)) (by have := ssI_len (outC ch); omega)
  have mt : mkTup [.t (iT (ssI (insC ch))), .t (iT (ssI (outC ch)))] μ = .ok (.t (.tup [iT (ssI (insC ch)), iT (ssI (outC ch))])) μ := rfl
  have lv := leave_t0 μ (.tup [iT (ssI (insC ch)), iT (ssI (outC ch))])
  simp only [evSs, evS, evE, evEs, bnd_ap, pur_ap, lift_ap, outO_ap, andThen_ap, asgT, List.getElem?_cons_zero, List.getElem?_cons_succ, List.set_cons_zero, List.set_cons_succ, h1, h2, s1, s2, m1, m2, mt, fin, lv]
theorem c_fixed_by_k {k : Nat} (hk : 1 ≤ k) {d : D} {ch : List Ch} {μ : Mem} (hd : ∀ ν, LT (μ ++ ν) d (ch.map cT)) (hl : ch.length < 64) : callI defs k F_fixed_by_k [d] μ = .ok (.tp [.ref μ.length, .ref (μ.length + 1)]) (μ ++ [.lst ((ssI (insC ch)).map fun n => D.t (.int n)), .lst ((ssI (outC ch)).map fun n => D.t (.int n))]) := by
  obtain ⟨k, rfl, hk⟩ := callI_at (defs := defs) (f := 0) hk
  rw [u_fixed_by_k, b_fixed_by_k]
  have hd0 := hd []
  rw [List.append_nil] at hd0
  have h1 : evE (callI defs k) C_fixed_by_k_1 [some d, none, none, none] μ = .ok (.t (iT (insC ch))) μ := ins_ev rfl hd0 (by omega) (fun c => rfl)
  have h2 : ∀ x ν, evE (callI defs k) C_fixed_by_k_0 [some d, x, none, none] (μ ++ ν) = .ok (.t (iT (outC ch))) (μ ++ ν) := fun x ν => outs_ev rfl (hd ν) (by omega) (fun c => rfl)
  have li := insC_len ch
  have lo := outC_len ch
  have s1 := sset_ev false (insC ch) μ (by omega)
  have s2 := fun ν => sset_ev false (outC ch) (μ ++ ν) (by omega)
  have m1 : mkL false ((ssI (insC ch)).map fun n => D.t (.int n)) μ = .ok (.ref μ.length) (μ ++ [.lst ((ssI (insC ch)).map fun n => D.t (.int n))]) := mkL_c _ _ (by rw [sizeLine_eq, List.length_map]; have := ssI_len (insC ch); omega)
  have m2 : mkL false ((ssI (outC ch)).map fun n => D.t (.int n)) (μ ++ [.lst ((ssI (insC ch)).map fun n => D.t (.int n))]) = .ok (.ref (μ.length + 1)) (μ ++ [.lst ((ssI (insC ch)).map fun n => D.t (.int n)), .lst ((ssI (outC ch)).map fun n => D.t (.int n))]) := by
    rw [mkL_c _ _ (by rw [sizeLine_eq, List.length_map]; have := ssI_len (outC ch); omega)]
    simp
  have mt : ∀ μ', mkTup [.ref μ.length, .ref (μ.length + 1)] μ' = .ok (.tp [.ref μ.length, .ref (μ.length + 1)]) μ' := fun μ' => rfl
  have lv := leave_k μ [.lst ((ssI (insC ch)).map fun n => D.t (.int n)), .lst ((ssI (outC ch)).map fun n => D.t (.int n))] (.tp [.ref μ.length, .ref (μ.length + 1)])
  simp only [evSs, evS, evE, evEs, bnd_ap, pur_ap, lift_ap, outO_ap, andThen_ap, asgT, List.getElem?_cons_zero, List.getElem?_cons_succ, List.set_cons_zero, List.set_cons_succ, h1, h2, s1, s2, m1, m2, mt, fin, lv]
/-! ### what is due -/
abbrev iC (ns : List Int) : Cell := .lst (ns.map fun n => D.t (.int n))
theorem ix_cell {μ : Mem} {c : Nat} {ds : List D} {i : Int} {d : D} (h : μ[c]? = some (.lst ds)) (hi : ((idx ds.length i).bind fun j => ds[j]?) = some d) : ixD (.ref c) (.t (.int i)) μ = .ok d μ := by
  simp only [ixD, tupOf, lstOf, dctOf, dctTOf, h, toI, hi]
structure Met (A ns : List Int) : Prop where
  nd : A.Nodup
  me : ∀ x, x ∈ A ↔ x ∈ ns
theorem Met.put {A ns : List Int} (h : Met A ns) {x : Int} (hx : ¬ x ∈ A) : Met (A ++ [x]) (ns ++ [x]) := ⟨by
  rw [List.nodup_append]
  exact ⟨h.nd, by simp, fun a ha b hb e => by simp at hb; exact hx (hb ▸ e ▸ ha)⟩, fun y => by rw [List.mem_append, List.mem_append, h.me]⟩
theorem Met.same {A ns : List Int} (h : Met A ns) {x : Int} (hx : x ∈ A) : Met A (ns ++ [x]) := ⟨h.nd, fun y => by
  rw [List.mem_append, ← h.me, List.mem_singleton]
  exact ⟨.inl, fun e => e.elim id fun e => e ▸ hx⟩⟩
theorem Met.sort {A ns : List Int} (h : Met A ns) : sortI A = ssI ns := by
  have hp : A.Perm (dedI ns) := (List.perm_ext_iff_of_nodup h.nd (dedI_nodup ns)).mpr fun k => by rw [h.me, dedI_mem]
  exact MI.sorted_eq ((sortI_perm A).trans (hp.trans (sortI_perm _).symm)) (sortI_sorted _) (sortI_sorted _)
theorem insC_snoc (pre : List Ch) (c : Ch) : insC (pre ++ [c]) = insC pre ++ (if isBe c = true then [laC c] else []) := by
  simp only [insC, List.filter_append, List.map_append]
  cases h : isBe c <;> simp [h]
theorem outC_snoc (pre : List Ch) (c : Ch) : outC (pre ++ [c]) = outC pre ++ (if isBe c = true then [] else [laC c]) := by
  simp only [outC, List.filter_append, List.map_append]
  cases h : isBe c <;> simp [h]
theorem side_put {k : Nat} {a0 : Option D} {n c : Nat} {ch : Ch} {A : List Int} {M M' : Mem} (hc : M[c]? = some (iC A)) (hl : A.length < 1000) (hs : M.set c (iC (A ++ [laC ch])) = M') (b : Bool) (hb : mI A (laC ch) = b)
    (hx : ixD (.ref n) (.t (.int (if (!isBe ch) = true then 1 else 0))) M = .ok (.ref c) M) (x3 : Option D) :
    evSs (callI defs k) L_w_due_0 [a0, some (.ref n), some (.t (cT ch)), x3] M = some (.nx [a0, some (.ref n), some (.t (cT ch)), some (.ref c)], if b = true then M else M') := by
  subst hb
  rw [L_w_due_0]
  obtain ⟨s, e1, e2⟩ := ch_eq ch M
  have e3 := ch_la ch M
  have it : ∀ b : Bool, ∀ μ, bfnD true .int1 [.t (.bl b)] μ = .ok (.t (.int (if b = true then 1 else 0))) μ := fun b μ => rfl
  have hm := (LD.cel hc).mem (laC ch)
  have nm : cmpD .nmem (.t (.int (laC ch))) (.ref c) M = .ok (.t (.bl (!mI A (laC ch)))) M := by simp only [cmpD, hm]
  have ty : tyOf M (.ref c) = some .lst := by simp only [tyOf, hc]
  have ap : mthD .append (.ref c) [.t (.int (laC ch))] M = .ok (.t .non) M' := by
    have z : (A.map fun n => D.t (.int n)).length < 16777216 := by simp; omega
    rw [← hs]
    simp only [mthD, hc, sizeLine_eq, z, if_true, iC, List.map_append, List.map_cons, List.map_nil]
  have ng : ∀ env, evE (callI defs k) (.neg (.cst (.int 1))) env M = .ok (.t (.int (-1))) M := fun env => rfl
  generalize (E.neg (.cst (.int 1))) = NG at *
  cases hb : mI A (laC ch) with
  | true =>
    rw [hb] at nm
    clear hc hs hm
    simp only [evSs, evS, evE, evEs, bnd_ap, pur_ap, lift_ap, outO_ap, andThen_ap, ite_ap, ite_apO, toB_ap, asgT, List.getElem?_cons_zero, List.getElem?_cons_succ, List.set_cons_zero, List.set_cons_succ, e1, sne_str, e2, it, hx, ng, e3, nm, Bool.not_true, Bool.not_false, Bool.false_eq_true, if_true, if_false]
  | false =>
    rw [hb] at nm
    clear hc hs hm
    simp only [evSs, evS, evE, evEs, bnd_ap, pur_ap, lift_ap, outO_ap, andThen_ap, ite_ap, ite_apO, toB_ap, asgT, List.getElem?_cons_zero, List.getElem?_cons_succ, List.set_cons_zero, List.set_cons_succ, e1, sne_str, e2, it, hx, ng, e3, nm, tyChk, mthT, ty, ap, Bool.not_true, Bool.not_false, Bool.false_eq_true, if_true, if_false]
theorem c_w_due {k : Nat} (hk : 1 ≤ k) {ch : List Ch} (μ : Mem) (hl : ch.length ≤ 900) : callI defs k F_w_due [.t (.lst (ch.map cT))] μ = .ok (.t (.tup [iT (ssI (insC ch)), iT (ssI (outC ch))])) μ := by
  obtain ⟨k, rfl, hk⟩ := callI_at (defs := defs) (f := 0) hk
  rw [u_w_due, b_w_due]
  have mp : ((ch.map cT).map D.t) = ch.map fun c => D.t (cT c) := by rw [List.map_map]; rfl
  obtain ⟨env', μ', e, A, B, x2, x3, mA, mB, lA, lB, rfl, rfl⟩ := for_run (tg := .nm 2) (b := fun env => evSs (callI defs k) L_w_due_0 env) (w := []) (fun c : Ch => D.t (cT c)) ch
    (fun pre env μ' => ∃ (A B : List Int) (x2 x3 : Option D), Met A (insC pre) ∧ Met B (outC pre) ∧ A.length ≤ pre.length ∧ B.length ≤ pre.length ∧ env = [some (.t (.lst (ch.map cT))), some (.ref (μ.length + 2)), x2, x3] ∧ μ' = μ ++ [iC A, iC B, .lst [.ref μ.length, .ref (μ.length + 1)]])
    (env := [some (.t (.lst (ch.map cT))), some (.ref (μ.length + 2)), none, none]) (μ := μ ++ [iC [], iC [], .lst [.ref μ.length, .ref (μ.length + 1)]])
    ⟨[], [], none, none, ⟨by simp, fun x => by simp [insC]⟩, ⟨by simp, fun x => by simp [outC]⟩, by simp, by simp, rfl, rfl⟩ (fun _ _ _ _ => wok_nil _) (fun pre c post env μ' hx hp => by
      obtain ⟨A, B, x2, x3, mA, mB, lA, lB, rfl, rfl⟩ := hp
      have hpre : pre.length < 900 := by
        have := congrArg List.length hx
        simp at this
        omega
      refine ⟨_, rfl, ?_⟩
      simp only [List.set_cons_zero, List.set_cons_succ]
      have go : (μ ++ [iC A, iC B, .lst [.ref μ.length, .ref (μ.length + 1)]])[μ.length + 2]? = some (.lst [.ref μ.length, .ref (μ.length + 1)]) := by rw [getA]; rfl
      cases hb : isBe c with
      | true =>
        have e := side_put (k := k) (a0 := some (.t (.lst (ch.map cT)))) (n := μ.length + 2) (c := μ.length) (ch := c) (A := A) (M := μ ++ [iC A, iC B, .lst [.ref μ.length, .ref (μ.length + 1)]]) (M' := μ ++ [iC (A ++ [laC c]), iC B, .lst [.ref μ.length, .ref (μ.length + 1)]]) (by rw [getA0]; rfl) (by omega) (by rw [setA0]; rfl) (mI A (laC c)) rfl (by rw [hb]; exact ix_cell go rfl) x3
        rw [insC_snoc, outC_snoc, hb, if_pos rfl, if_pos rfl, List.append_nil]
        cases hm : mI A (laC c) with
        | true =>
          rw [hm] at e
          exact ⟨_, _, e, A, B, some (.t (cT c)), some (.ref μ.length), mA.same (mI_iff.mp hm), mB, by simp; omega, by simp; omega, rfl, rfl⟩
        | false =>
          rw [hm] at e
          exact ⟨_, _, e, A ++ [laC c], B, some (.t (cT c)), some (.ref μ.length), mA.put (fun h => by rw [mI_iff.mpr h] at hm; cases hm), mB, by simp; omega, by simp; omega, rfl, rfl⟩
      | false =>
        have e := side_put (k := k) (a0 := some (.t (.lst (ch.map cT)))) (n := μ.length + 2) (c := μ.length + 1) (ch := c) (A := B) (M := μ ++ [iC A, iC B, .lst [.ref μ.length, .ref (μ.length + 1)]]) (M' := μ ++ [iC A, iC (B ++ [laC c]), .lst [.ref μ.length, .ref (μ.length + 1)]]) (by rw [getA]; rfl) (by omega) (by rw [setA]; rfl) (mI B (laC c)) rfl (by rw [hb]; exact ix_cell go rfl) x3
        have hf : ¬ (false = true) := by simp
        rw [insC_snoc, outC_snoc, hb, if_neg hf, if_neg hf, List.append_nil]
        cases hm : mI B (laC c) with
        | true =>
          rw [hm] at e
          exact ⟨_, _, e, A, B, some (.t (cT c)), some (.ref (μ.length + 1)), mA, mB.same (mI_iff.mp hm), by simp; omega, by simp; omega, rfl, rfl⟩
        | false =>
          rw [hm] at e
          exact ⟨_, _, e, A, B ++ [laC c], some (.t (cT c)), some (.ref (μ.length + 1)), mA, mB.put (fun h => by rw [mI_iff.mpr h] at hm; cases hm), by simp; omega, by simp; omega, rfl, rfl⟩)
  rw [← mp] at e
  have m1 : mkL false [] μ = .ok (.ref μ.length) (μ ++ [iC []]) := mkL_c _ _ (Nat.zero_le _)
  have m2 : mkL false [] (μ ++ [iC []]) = .ok (.ref (μ.length + 1)) (μ ++ [iC [], iC []]) := by
    rw [mkL_c _ _ (Nat.zero_le _)]
    simp
  have m3 : mkL false [.ref μ.length, .ref (μ.length + 1)] (μ ++ [iC [], iC []]) = .ok (.ref (μ.length + 2)) (μ ++ [iC [], iC [], .lst [.ref μ.length, .ref (μ.length + 1)]]) := by
    rw [mkL_c _ _ (by simp [sizeLine_eq])]
    simp
  have go : (μ ++ [iC A, iC B, .lst [.ref μ.length, .ref (μ.length + 1)]])[μ.length + 2]? = some (.lst [.ref μ.length, .ref (μ.length + 1)]) := by rw [getA]; rfl
  have j0 : ixD (.ref (μ.length + 2)) (.t (.int 0)) (μ ++ [iC A, iC B, .lst [.ref μ.length, .ref (μ.length + 1)]]) = .ok (.ref μ.length) (μ ++ [iC A, iC B, .lst [.ref μ.length, .ref (μ.length + 1)]]) := ix_cell go rfl
  have j1 : ixD (.ref (μ.length + 2)) (.t (.int 1)) (μ ++ [iC A, iC B, .lst [.ref μ.length, .ref (μ.length + 1)]]) = .ok (.ref (μ.length + 1)) (μ ++ [iC A, iC B, .lst [.ref μ.length, .ref (μ.length + 1)]]) := ix_cell go rfl
  have so : ∀ {c : Nat} {A : List Int} {M : Mem}, M[c]? = some (iC A) → A.length ≤ 1000 → bfnD true .sorted [.ref c] M = .ok (.t (iT (sortI A))) M := fun {c A M} h hz => by
    have e1 : lstOf M (.ref c) = some (A.map fun n => D.t (.int n)) := by simp only [lO_ref, h]
    have e2 : toIs (A.map fun n => D.t (.int n)) = some A := toIs_of A
    simp only [bfnD, e1, Option.bind_some, e2]
    rw [← ints_map]
    exact mkL_t _ _ (by rw [sizeLine_eq, List.length_map, (sortI_perm A).length_eq]; omega)
  have s0 := so (c := μ.length) (A := A) (M := μ ++ [iC A, iC B, .lst [.ref μ.length, .ref (μ.length + 1)]]) (by rw [getA0]; rfl) (by omega)
  have s1 := so (c := μ.length + 1) (A := B) (M := μ ++ [iC A, iC B, .lst [.ref μ.length, .ref (μ.length + 1)]]) (by rw [getA]; rfl) (by omega)
  rw [mA.sort] at s0
  rw [mB.sort] at s1
  have mt : ∀ μ, mkTup [.t (iT (ssI (insC ch))), .t (iT (ssI (outC ch)))] μ = .ok (.t (.tup [iT (ssI (insC ch)), iT (ssI (outC ch))])) μ := fun μ => rfl
  have lv : leave .frz μ (.t (.tup [iT (ssI (insC ch)), iT (ssI (outC ch))])) (μ ++ [iC A, iC B, .lst [.ref μ.length, .ref (μ.length + 1)]]) = .ok (.t (.tup [iT (ssI (insC ch)), iT (ssI (outC ch))])) μ := by
    unfold leave
    rw [if_pos (back_app μ _)]
    simp only [frzD, List.take_left]
  clear so mA mB go
  generalize (μ ++ [iC A, iC B, .lst [.ref μ.length, .ref (μ.length + 1)]]) = M at *
  simp only [evSs, evS, evE, evEs, evI, bnd_ap, pur_ap, lift_ap, outO_ap, andThen_ap, asgT, List.getElem?_cons_zero, List.getElem?_cons_succ, List.set_cons_zero, List.set_cons_succ, m1, m2, m3, lO_lst, wL_t, e, j0, j1, s0, s1, mt, fin, lv]
/-! ### the next tuples that may stand -/
def ptD (p : Int × Int) : PyData := .tuple [.int p.1, .int p.2]
theorem toP_pT (p : Int × Int) : toP (pT p) = some (ptD p) := by simp [pT, ptD, toP, toPs]
theorem toPs_pT : ∀ ts : PL, toPs (ts.map pT) = some (ts.map ptD)
  | [] => by simp [toPs]
  | t :: ts => by simp [toPs, toP_pT, toPs_pT ts]
theorem lay_pT (p : Int × Int) : (ptD p).canLay0 = true := by simp [ptD, PyData.canLay0, PyData.canLayAll0]
theorem lay_pTs : ∀ ts : PL, PyData.canLayAll0 (ts.map ptD) = true
  | [] => by simp [PyData.canLayAll0]
  | t :: ts => by simp [PyData.canLayAll0, lay_pT, lay_pTs ts]
theorem dep_pT (p : Int × Int) : (ptD p).depth ≤ 63 := by simp [ptD, PyData.depth, PyData.depthAll]
theorem eqv_pT (p q : Int × Int) : PyData.eqv (ptD p) (ptD q) = decide (p = q) := by
  obtain ⟨a, b⟩ := p
  obtain ⟨c, d⟩ := q
  simp only [ptD, PyData.eqv, PyData.eqvAll, Bool.and_true, Prod.mk.injEq, Bool.decide_and]
  rfl
theorem any_pT (t : Int × Int) (ts : PL) : ((ts.map ptD).any fun z => PyData.eqv z (ptD t)) = decide (t ∈ ts) := by
  rw [Bool.eq_iff_iff, List.any_eq_true, decide_eq_true_eq]
  constructor
  · rintro ⟨z, hz, e⟩
    obtain ⟨p, hp, rfl⟩ := List.mem_map.mp hz
    rw [eqv_pT, decide_eq_true_eq] at e
    exact e ▸ hp
  · intro h
    exact ⟨_, List.mem_map_of_mem h, by rw [eqv_pT]; simp⟩
theorem memP_frz {μ : Mem} {ts : PL} (t : Int × Int) : memP μ (.t (pT t)) (.t (plT ts)) = some (decide (t ∈ ts)) := by
  have h3 : deepD μ (.t (pT t)) = some (ptD t) := toP_pT t
  have h4 : deepD μ (.t (plT ts)) = some (.list (ts.map ptD)) := by simp only [deepD, plT, toP, toPs_pT, Option.map_some]
  simp only [memP, h3, h4, lay_pT, lay_pTs, dep_pT, decide_true, Bool.and_self, if_true, any_pT]
theorem mem_pl (t : Int × Int) (ts : PL) (μ : Mem) : cmpD .mem (.t (pT t)) (.t (plT ts)) μ = .ok (.t (.bl (decide (t ∈ ts)))) μ := by
  have h := memP_frz (μ := μ) (ts := ts) t
  have h1 : memD (.t (pT t)) (.t (plT ts)) μ = some (decide (t ∈ ts)) := by
    have e := toTs_of (ts.map pT)
    have hf : flatT (pT t) = false := rfl
    simp only [memD, plT, dctOf, dctTOf, lstOf, e] at h ⊢
    simp only [pT] at hf h ⊢
    simp only [hf, Bool.false_and, Bool.false_eq_true, if_false]
    exact h
  simp only [cmpD, h1]
abbrev D3 := List (Int × Int × Int)
def dT (d : Int × Int × Int) : T := .tup [.int d.1, .int d.2.1, .int d.2.2]
def payOne (d : Int × Int × Int) (x : Int) : Int := (if d.1 = x then d.2.2 else 0) + (if d.2.1 = x then d.2.2 else 0)
def pay (l : D3) (x : Int) : Int := (l.map fun d => payOne d x).sum
theorem pay_snoc (l : D3) (d : Int × Int × Int) (x : Int) : pay (l ++ [d]) x = pay l x + payOne d x := by simp [pay]
theorem find_map {κ : Type} [DecidableEq κ] (k k' : κ) (d : D) : ∀ kds : List (κ × D), getK (kds.map fun kd => if kd.1 = k then (kd.1, d) else kd) k' = if k = k' then (getK kds k').map (fun _ => d) else getK kds k'
  | [] => by simp [getK]
  | kd :: kds => by
    have ih := find_map k k' d kds
    simp only [getK] at ih ⊢
    simp only [List.map_cons, List.find?_cons]
    by_cases h1 : kd.1 = k
    · rw [if_pos h1]
      by_cases h2 : kd.1 = k'
      · have h3 : k = k' := h1 ▸ h2
        simp [h2, h3]
      · have h3 : ¬ k = k' := h1 ▸ h2
        simp only [h2, decide_false, h3, if_false] at ih ⊢
        exact ih
    · rw [if_neg h1]
      by_cases h2 : kd.1 = k'
      · have h3 : ¬ k = k' := fun e => h1 (e ▸ h2)
        simp [h2, h3]
      · simp only [h2, decide_false]
        exact ih
theorem getK_put {κ : Type} [DecidableEq κ] (kds : List (κ × D)) (k k' : κ) (d : D) : getK (putK kds k d) k' = if k = k' then some d else getK kds k' := by
  unfold MI.putK
  split
  · rename_i h
    rw [find_map]
    by_cases e : k = k'
    · subst e
      rw [if_pos rfl, if_pos rfl]
      obtain ⟨kd, hm, hk⟩ := List.any_eq_true.mp h
      have hs : (kds.find? fun kd => decide (kd.1 = k)).isSome = true := List.find?_isSome.mpr ⟨kd, hm, hk⟩
      obtain ⟨z, hz⟩ := Option.isSome_iff_exists.mp hs
      simp [getK, hz]
    · rw [if_neg e, if_neg e]
  · rename_i h
    have hn : kds.find? (fun kd => decide (kd.1 = k)) = none := by
      rw [List.find?_eq_none]
      intro kd hm hk
      exact h (List.any_eq_true.mpr ⟨kd, hm, hk⟩)
    by_cases e : k = k'
    · subst e
      simp [getK, List.find?_append, hn]
    · rw [if_neg e]
      simp only [getK, List.find?_append]
      cases hz : kds.find? (fun kd => decide (kd.1 = k')) with
      | some z => simp
      | none => simp [e]
theorem putK_len {κ : Type} [DecidableEq κ] (kds : List (κ × D)) (k : κ) (d : D) : (putK kds k d).length ≤ kds.length + 1 := by
  unfold MI.putK
  split <;> simp
/-- a dict of sums -/
def DF (kds : List (Key × D)) (f : Int → Int) : Prop := ∀ x : Int, getK kds (.inl x) = some (.t (.int (f x))) ∨ (getK kds (.inl x) = none ∧ f x = 0)
theorem DF.get {kds : List (Key × D)} {f : Int → Int} (h : DF kds f) {c : Nat} {μ : Mem} (hc : μ[c]? = some (.dct kds)) (x : Int) : mthD .dget (.ref c) [.t (.int x), .t (.int 0)] μ = .ok (.t (.int (f x))) μ := by
  have e1 : dctOf μ (.ref c) = some kds := by simp only [dctOf, hc]
  have e2 : MI.keyOf (.t (.int x)) = some (.inl x) := rfl
  simp only [mthD, e1, e2]
  rcases h x with e | ⟨e, e0⟩
  · rw [e, Option.getD_some]
  · rw [e, Option.getD_none, e0]
theorem DF.put {kds : List (Key × D)} {f : Int → Int} (h : DF kds f) (a w : Int) : DF (putK kds (.inl a) (.t (.int (f a + w)))) (fun x => f x + if a = x then w else 0) := fun x => by
  rw [getK_put]
  by_cases e : a = x
  · subst e
    rw [if_pos rfl]
    exact .inl (by simp)
  · have e2 : ¬ ((.inl a : Key) = .inl x) := fun h => e (Sum.inl.inj h)
    rw [if_neg e2]
    simp only [e, if_false, Int.add_zero]
    exact h x
theorem DF.congr {kds : List (Key × D)} {f g : Int → Int} (h : DF kds f) (e : ∀ x, f x = g x) : DF kds g := fun x => by
  rw [← e x]
  exact h x
theorem set_dct {c : Nat} {μ : Mem} {kds : List (Key × D)} (hc : μ[c]? = some (.dct kds)) (hl : kds.length < 1000) (a v : Int) : setD (.ref c) (.t (.int a)) (.t (.int v)) μ = some (μ.set c (.dct (putK kds (.inl a) (.t (.int v))))) := by
  have e2 : MI.keyOf (.t (.int a)) = some (.inl a) := rfl
  have z : kds.length < 16777216 := by omega
  simp only [setD, hc, e2, sizeLine_eq, z, if_true]
/-- the dict of what is paid -/
theorem paid_loop {k : Nat} {a0 a2 a3 a5 : Option D} {ds : D3} (μ : Mem) (hl : ds.length ≤ 200) :
    ∃ kds x4 x7 x8, DF kds (pay ds) ∧ forLoop (.tp [.nm 4, .nm 7, .nm 8]) (fun env => evSs (callI defs k) L_w_next_4 env) [] ((ds.map dT).map D.t) [a0, some (.t (.lst (ds.map dT))), a2, a3, none, a5, some (.ref μ.length), none, none, none, none, none, none, none, none, none] (μ ++ [.dct []]) =
      some (.nx [a0, some (.t (.lst (ds.map dT))), a2, a3, x4, a5, some (.ref μ.length), x7, x8, none, none, none, none, none, none, none], μ ++ [.dct kds]) := by
  have mp : ((ds.map dT).map D.t) = ds.map fun d => D.t (dT d) := by rw [List.map_map]; rfl
  obtain ⟨env', μ', e, kds, x4, x7, x8, hd, hk, rfl, rfl⟩ := for_run (tg := .tp [.nm 4, .nm 7, .nm 8]) (b := fun env => evSs (callI defs k) L_w_next_4 env) (w := []) (fun d : Int × Int × Int => D.t (dT d)) ds
    (fun pre env μ' => ∃ (kds : List (Key × D)) (x4 x7 x8 : Option D), DF kds (pay pre) ∧ kds.length ≤ 2 * pre.length ∧ env = [a0, some (.t (.lst (ds.map dT))), a2, a3, x4, a5, some (.ref μ.length), x7, x8, none, none, none, none, none, none, none] ∧ μ' = μ ++ [.dct kds])
    (env := [a0, some (.t (.lst (ds.map dT))), a2, a3, none, a5, some (.ref μ.length), none, none, none, none, none, none, none, none, none]) (μ := μ ++ [.dct []])
    ⟨[], none, none, none, fun x => .inr ⟨rfl, rfl⟩, by simp, rfl, rfl⟩ (fun _ _ _ _ => wok_nil _) (fun pre d post env μ' hx hp => by
      obtain ⟨kds, x4, x7, x8, hd, hk, rfl, rfl⟩ := hp
      have hpre : pre.length < 200 := by
        have := congrArg List.length hx
        simp at this
        omega
      obtain ⟨a, b, w⟩ := d
      have h2 := hd.put a w
      have hl2 := putK_len kds (.inl a : Key) (.t (.int (pay pre a + w)))
      have h3 := h2.put b w
      have hl3 := putK_len (putK kds (.inl a : Key) (.t (.int (pay pre a + w)))) (.inl b : Key) (.t (.int (pay pre b + (if a = b then w else 0) + w)))
      refine ⟨[a0, some (.t (.lst (ds.map dT))), a2, a3, some (.t (.int a)), a5, some (.ref μ.length), some (.t (.int b)), some (.t (.int w)), none, none, none, none, none, none, none], rfl, _, _, ?_, _, some (.t (.int a)), some (.t (.int b)), some (.t (.int w)), h3.congr fun x => by rw [pay_snoc]; simp only [payOne]; omega, by simp only [List.length_append, List.length_singleton]; omega, rfl, rfl⟩
      have c1 : (μ ++ [Cell.dct kds])[μ.length]? = some (.dct kds) := by rw [getA0]; rfl
      have g1 := hd.get c1 a
      have s1 := set_dct c1 (by omega) a (pay pre a + w)
      rw [setA0, List.set_cons_zero] at s1
      have c2 : (μ ++ [Cell.dct (putK kds (.inl a : Key) (.t (.int (pay pre a + w))))])[μ.length]? = some (.dct (putK kds (.inl a : Key) (.t (.int (pay pre a + w))))) := by rw [getA0]; rfl
      have g2 := h2.get c2 b
      have s2 := set_dct c2 (by omega) b (pay pre b + (if a = b then w else 0) + w)
      rw [setA0, List.set_cons_zero] at s2
      have ad : ∀ i j : Int, ∀ μ, binD .add (.t (.int i)) (.t (.int j)) μ = .ok (.t (.int (i + j))) μ := fun i j μ => by simp only [binD, bI_add]
      rw [L_w_next_4]
      have t1 : tyOf (μ ++ [Cell.dct kds]) (.ref μ.length) = some .dct := by simp only [tyOf, c1]
      have t2 : tyOf (μ ++ [Cell.dct (putK kds (.inl a : Key) (.t (.int (pay pre a + w))))]) (.ref μ.length) = some .dct := by simp only [tyOf, c2]
      clear hx h2 h3 c1 c2 hd
      generalize μ ++ [Cell.dct (putK kds (.inl a : Key) (.t (.int (pay pre a + w))))] = M1 at *
      generalize μ ++ [Cell.dct kds] = M0 at *
      simp only [evSs, evS, evE, evEs, bnd_ap, pur_ap, lift_ap, outO_ap, andThen_ap, List.getElem?_cons_zero, List.getElem?_cons_succ, tyChk, mthT, t1, t2, g1, s1, g2, s2, ad, if_true])
  rw [← mp] at e
  exact ⟨kds, x4, x7, x8, hd, e⟩
/-! ### what may stand next is so by the halves -/
def Good (h : Int → Int) (c : Ch) : Prop := if isBe c = true then h (laC c) = 2 else h (laC c) = 0
structure WB (h : Int → Int) (P U : PL) (Dd : D3) : Prop where
  lo : ∀ p ∈ P, pay Dd p.1 < 2 * p.2 → h p.1 = 0
  ti : ∀ t ∈ U, 0 ≤ h t.1 ∧ h t.1 ≤ 2 ∧ 0 ≤ h t.2 ∧ h t.2 ≤ 2 ∧ 2 ≤ h t.1 + h t.2
  du : ∀ t ∈ Dd, h t.1 + h t.2.1 = 2
  nP : P.length ≤ 40
  nU : U.length ≤ 130
  nD : Dd.length ≤ 130
theorem good_ins {h : Int → Int} {ch : List Ch} (hc : ∀ c ∈ ch, Good h c) : ∀ x ∈ insC ch, h x = 2 := fun x hx => by
  obtain ⟨c, hm, rfl⟩ := List.mem_map.mp hx
  rw [List.mem_filter] at hm
  have := hc c hm.1
  rw [Good, if_pos hm.2] at this
  exact this
theorem good_outs {h : Int → Int} {ch : List Ch} (hc : ∀ c ∈ ch, Good h c) : ∀ x ∈ outC ch, h x = 0 := fun x hx => by
  obtain ⟨c, hm, rfl⟩ := List.mem_map.mp hx
  rw [List.mem_filter] at hm
  have := hc c hm.1
  have hb : ¬ isBe c = true := by
    have := hm.2
    simpa using this
  rw [Good, if_neg hb] at this
  exact this
abbrev chC (fs : List Ch) : Cell := .lst ((fs.map cT).map D.t)
section
variable {k : Nat} {W DL d : Option D} {ins outs : List Int} {tied : PL} {x8 : Option D} (μ : Mem) (kds : List (Key × D))
abbrev nxE (W DL d : Option D) (ins outs : List Int) (tied : PL) (x8 : Option D) (μ : Mem) (a b x14 x15 : Option D) : Envv := [W, DL, d, some (.t (iT ins)), a, some (.t (iT outs)), some (.ref μ.length), b, x8, some (.ref (μ.length + 1)), none, none, some (.t (plT tied)), none, x14, x15]
theorem nx_app (fs : List Ch) (c : Ch) (hl : fs.length < 10000) : mthD .append (.ref (μ.length + 1)) [.t (cT c)] (μ ++ [.dct kds, chC fs]) = .ok (.t .non) (μ ++ [.dct kds, chC (fs ++ [c])]) ∧ tyOf (μ ++ [.dct kds, chC fs]) (.ref (μ.length + 1)) = some .lst := by
  have gc : (μ ++ [Cell.dct kds, chC fs])[μ.length + 1]? = some (chC fs) := by rw [getA]; rfl
  have z : ((fs.map cT).map D.t).length < 16777216 := by simp; omega
  refine ⟨?_, by simp only [tyOf, gc]⟩
  simp only [mthD, gc, sizeLine_eq, z, if_true, setA, List.set_cons_succ, List.set_cons_zero, chC, List.map_append, List.map_cons, List.map_nil]
theorem nx_step (fs : List Ch) (hl : fs.length < 9000) (a b u v : Int) :
    evSs (callI defs k) L_w_next_0 (nxE W DL d ins outs tied x8 μ (some (.t (.int a))) (some (.t (.int b))) (some (.t (.int u))) (some (.t (.int v)))) (μ ++ [.dct kds, chC fs]) =
      some (.nx (nxE W DL d ins outs tied x8 μ (some (.t (.int a))) (some (.t (.int b))) (some (.t (.int u))) (some (.t (.int v)))), μ ++ [.dct kds, chC (fs ++ (if mI outs u = true then [.be u v] else []) ++ (if (mI ins u && decide ((a, b) ∈ tied)) = true then [.ti u v] else []))]) := by
  rw [L_w_next_0]
  have m1 : ∀ ns : List Int, ∀ μ, cmpD .mem (.t (.int u)) (.t (iT ns)) μ = .ok (.t (.bl (mI ns u))) μ := fun ns μ => by simp only [cmpD, mem_mI]
  have m2 := fun μ => mem_pl (a, b) tied μ
  have t3 : ∀ s : Str, ∀ μ, mkTup [.t (.str s), .t (.int u), .t (.int v)] μ = .ok (.t (.tup [.str s, .int u, .int v])) μ := fun s μ => rfl
  have t2 : ∀ μ, mkTup [.t (.int a), .t (.int b)] μ = .ok (.t (pT (a, b))) μ := fun μ => rfl
  obtain ⟨p1, q1⟩ := nx_app μ kds fs (.be u v) (by omega)
  obtain ⟨p2, q2⟩ := nx_app μ kds fs (.ti u v) (by omega)
  obtain ⟨p3, q3⟩ := nx_app μ kds (fs ++ [.be u v]) (.ti u v) (by simp; omega)
  simp only [cT] at p1 p2 p3
  unfold nxE
  cases h1 : mI outs u with
  | true =>
    have f1 := m1 outs (μ ++ [.dct kds, chC fs])
    rw [h1] at f1
    cases h2 : mI ins u with
    | true =>
      have f2 := m1 ins (μ ++ [.dct kds, chC (fs ++ [.be u v])])
      rw [h2] at f2
      have f3 := m2 (μ ++ [.dct kds, chC (fs ++ [.be u v])])
      cases h3 : decide ((a, b) ∈ tied) with
      | true =>
        rw [h3] at f3
        simp only [evSs, evS, evE, evEs, bnd_ap, pur_ap, lift_ap, outO_ap, andThen_ap, ite_ap, ite_apO, toB_ap, List.getElem?_cons_zero, List.getElem?_cons_succ, f1, f2, f3, t3, t2, tyChk, mthT, p1, q1, p3, q3, Bool.and_self, if_true]
      | false =>
        rw [h3] at f3
        simp only [evSs, evS, evE, evEs, bnd_ap, pur_ap, lift_ap, outO_ap, andThen_ap, ite_ap, ite_apO, toB_ap, List.getElem?_cons_zero, List.getElem?_cons_succ, f1, f2, f3, t3, t2, tyChk, mthT, p1, q1, Bool.and_false, Bool.false_eq_true, if_true, if_false, List.append_nil]
    | false =>
      have f2 := m1 ins (μ ++ [.dct kds, chC (fs ++ [.be u v])])
      rw [h2] at f2
      simp only [evSs, evS, evE, evEs, bnd_ap, pur_ap, lift_ap, outO_ap, andThen_ap, ite_ap, ite_apO, toB_ap, List.getElem?_cons_zero, List.getElem?_cons_succ, f1, f2, t3, tyChk, mthT, p1, q1, Bool.false_and, Bool.false_eq_true, if_true, if_false, List.append_nil]
  | false =>
    have f1 := m1 outs (μ ++ [.dct kds, chC fs])
    rw [h1] at f1
    cases h2 : mI ins u with
    | true =>
      have f2 := m1 ins (μ ++ [.dct kds, chC fs])
      rw [h2] at f2
      have f3 := m2 (μ ++ [.dct kds, chC fs])
      cases h3 : decide ((a, b) ∈ tied) with
      | true =>
        rw [h3] at f3
        simp only [evSs, evS, evE, evEs, bnd_ap, pur_ap, lift_ap, outO_ap, andThen_ap, ite_ap, ite_apO, toB_ap, List.getElem?_cons_zero, List.getElem?_cons_succ, f1, f2, f3, t3, t2, tyChk, mthT, p2, q2, Bool.and_self, Bool.false_eq_true, if_true, if_false, List.append_nil]
      | false =>
        rw [h3] at f3
        simp only [evSs, evS, evE, evEs, bnd_ap, pur_ap, lift_ap, outO_ap, andThen_ap, ite_ap, ite_apO, toB_ap, List.getElem?_cons_zero, List.getElem?_cons_succ, f1, f2, f3, t2, Bool.and_false, Bool.false_eq_true, if_true, if_false, List.append_nil]
    | false =>
      have f2 := m1 ins (μ ++ [.dct kds, chC fs])
      rw [h2] at f2
      simp only [evSs, evS, evE, evEs, bnd_ap, pur_ap, lift_ap, outO_ap, andThen_ap, ite_ap, ite_apO, toB_ap, List.getElem?_cons_zero, List.getElem?_cons_succ, f1, f2, Bool.false_and, Bool.false_eq_true, if_false, List.append_nil]
end
/-- what is put to the found ones at a tie's one end -/
theorem good_put {h : Int → Int} {fs ch : List Ch} {tied : PL} {a b u v : Int} (hf : ∀ c ∈ fs, Good h c) (hc : ∀ c ∈ ch, Good h c) (ht : 0 ≤ h u ∧ h u ≤ 2 ∧ 0 ≤ h v ∧ h v ≤ 2 ∧ 2 ≤ h u + h v) (hd : (a, b) ∈ tied → h u + h v = 2) :
    ∀ c ∈ fs ++ (if mI (outC ch) u = true then [Ch.be u v] else []) ++ (if (mI (insC ch) u && decide ((a, b) ∈ tied)) = true then [Ch.ti u v] else []), Good h c := fun c hm => by
  rcases List.mem_append.mp hm with hm | hm
  · rcases List.mem_append.mp hm with hm | hm
    · exact hf c hm
    · split at hm
      · rename_i h1
        rw [List.mem_singleton] at hm
        subst hm
        have := good_outs hc u (mI_iff.mp h1)
        show (if true = true then h v = 2 else h v = 0)
        rw [if_pos rfl]
        omega
      · cases hm
  · split at hm
    · rename_i h1
      rw [List.mem_singleton] at hm
      subst hm
      rw [Bool.and_eq_true, decide_eq_true_eq] at h1
      have h2 := good_ins hc u (mI_iff.mp h1.1)
      have h3 := hd h1.2
      show (if false = true then h v = 2 else h v = 0)
      rw [if_neg (by simp)]
      omega
    · cases hm
theorem put_len (fs : List Ch) (p q : Prop) [Decidable p] [Decidable q] (x y : Ch) : (fs ++ (if p then [x] else []) ++ (if q then [y] else [])).length ≤ fs.length + 2 := by
  rw [List.length_append, List.length_append]
  split <;> split <;> simp
theorem c_w_next {k : Nat} (hk : 1 ≤ k) {h : Int → Int} {P U : PL} {Dd : D3} {ch : List Ch} {d : D} {μ : Mem} (hd : LT μ d (ch.map cT)) (hw : WB h P U Dd) (hch : ∀ c ∈ ch, Good h c) (hl : ch.length ≤ 100) :
    ∃ fs : List Ch, (∀ c ∈ fs, Good h c) ∧ fs.length ≤ 1000 ∧ callI defs k F_w_next [.t (webT P U), .t (.lst (Dd.map dT)), d] μ = .ok (.t (.lst (fs.map cT))) μ := by
  obtain ⟨k, rfl, hk⟩ := callI_at (defs := defs) (f := 0) hk
  rw [u_w_next, b_w_next]
  have nP := hw.nP
  have nU := hw.nU
  have nD := hw.nD
  have e1 : evE (callI defs k) C_w_next_6 [some (.t (webT P U)), some (.t (.lst (Dd.map dT))), some d, none, none, none, none, none, none, none, none, none, none, none, none, none] μ = .ok (.t (iT (insC ch))) μ := ins_ev rfl hd (by omega) (fun c => rfl)
  have e2 : evE (callI defs k) C_w_next_5 [some (.t (webT P U)), some (.t (.lst (Dd.map dT))), some d, some (.t (iT (insC ch))), none, none, none, none, none, none, none, none, none, none, none, none] μ = .ok (.t (iT (outC ch))) μ := outs_ev rfl hd (by omega) (fun c => rfl)
  obtain ⟨kds, x4, x7, x8, hk1, e3⟩ := paid_loop (k := k) (a0 := some (.t (webT P U))) (a2 := some d) (a3 := some (.t (iT (insC ch)))) (a5 := some (.t (iT (outC ch)))) (ds := Dd) μ (by omega)
  have mp : ∀ ps : PL, (ps.map pT).map D.t = ps.map fun p => D.t (pT p) := fun ps => by rw [List.map_map]; rfl
  have w0 : ∀ μ, ixD (.t (webT P U)) (.t (.int 0)) μ = .ok (.t (plT P)) μ := fun μ => rfl
  have w1 : ∀ μ, ixD (.t (webT P U)) (.t (.int 1)) μ = .ok (.t (plT U)) μ := fun μ => rfl
  obtain ⟨f0, hf0⟩ : ∃ f0, (P.filter fun p => decide (pay Dd p.1 < 2 * p.2)).map (fun p => Ch.lo p.1) = f0 := ⟨_, rfl⟩
  have gf0 : ∀ c ∈ f0, Good h c := fun c hc => by
    rw [← hf0] at hc
    obtain ⟨p, hp, rfl⟩ := List.mem_map.mp hc
    rw [List.mem_filter, decide_eq_true_eq] at hp
    show (if false = true then h p.1 = 2 else h p.1 = 0)
    rw [if_neg (by simp)]
    exact hw.lo p hp.1 hp.2
  have lf0 : f0.length ≤ 40 := by
    rw [← hf0, List.length_map]
    exact Nat.le_trans (List.length_filter_le _ _) nP
  have gd : (μ ++ [Cell.dct kds])[μ.length]? = some (.dct kds) := by rw [getA0]; rfl
  have e4 : evE (callI defs k) C_w_next_3 [some (.t (webT P U)), some (.t (.lst (Dd.map dT))), some d, some (.t (iT (insC ch))), x4, some (.t (iT (outC ch))), some (.ref μ.length), x7, x8, none, none, none, none, none, none, none] (μ ++ [.dct kds]) = .ok (.ref (μ.length + 1)) (μ ++ [.dct kds, chC f0]) := by
    have := ev_compc (F := callI defs k) (own := [("_law_place", 10), ("_law_price", 11)]) (tg := .tp [.nm 10, .nm 11]) (it := .val (.ix (.var 0) (.cst (.int 0)))) (ifs := .cons (.cmp .lt (.mth .dget (.var 6) (.cons (.var 10) (.cons (.cst (.int 0)) .nil))) (.bin .mul (.cst (.int 2)) (.var 11))) .nil) (e := .tup (.cons (.cst (.str "loose")) (.cons (.var 10) .nil))) (env := [some (.t (webT P U)), some (.t (.lst (Dd.map dT))), some d, some (.t (iT (insC ch))), x4, some (.t (iT (outC ch))), some (.ref μ.length), x7, x8, none, none, none, none, none, none, none]) (μ := μ ++ [.dct kds]) (w := []) (fun p : Int × Int => D.t (pT p)) P (fun p => decide (pay Dd p.1 < 2 * p.2)) (fun p => cT (.lo p.1)) (by
      simp only [evI, evE, bnd_ap, pur_ap, List.getElem?_cons_zero, w0, plT, lO_lst, wL_t, mp]) (by rw [sizeLine_eq]; omega) (wok_nil _) (fun p _ => ⟨[some (.t (webT P U)), some (.t (.lst (Dd.map dT))), some d, some (.t (iT (insC ch))), x4, some (.t (iT (outC ch))), some (.ref μ.length), x7, x8, none, some (.t (.int p.1)), some (.t (.int p.2)), none, none, none, none], rfl, by
        have g := hk1.get gd p.1
        have ty : tyOf (μ ++ [Cell.dct kds]) (.ref μ.length) = some .dct := by simp only [tyOf, gd]
        have ml : ∀ j : Int, ∀ μ, binD .mul (.t (.int 2)) (.t (.int j)) μ = .ok (.t (.int (2 * j))) μ := fun j μ => by
          simp only [binD]
          rw [bI_mull 2 j (by decide) (by decide)]
        have lt : ∀ i j : Int, ∀ μ, cmpD .lt (.t (.int i)) (.t (.int j)) μ = .ok (.t (.bl (decide (i < j)))) μ := fun i j μ => rfl
        simp only [evC, evE, evEs, bnd_ap, pur_ap, List.getElem?_cons_zero, List.getElem?_cons_succ, tyChk, mthT, ty, g, ml, lt, if_true, toB_ap], fun _ => rfl⟩)
    have hlen : (μ ++ [Cell.dct kds]).length = μ.length + 1 := by simp
    rw [hlen] at this
    have e : List.map (fun p : Int × Int => cT (.lo p.1)) (P.filter fun p => decide (pay Dd p.1 < 2 * p.2)) = f0.map cT := by
      rw [← hf0, List.map_map]
      rfl
    rw [e, List.append_assoc] at this
    exact this
  obtain ⟨tied, htd⟩ : ∃ tied : PL, (Dd.map fun t => (t.1, t.2.1)) = tied := ⟨_, rfl⟩
  have e5 : ∀ x9, evE (callI defs k) C_w_next_2 [some (.t (webT P U)), some (.t (.lst (Dd.map dT))), some d, some (.t (iT (insC ch))), x4, some (.t (iT (outC ch))), some (.ref μ.length), x7, x8, x9, none, none, none, none, none, none] (μ ++ [.dct kds, chC f0]) = .ok (.t (plT tied)) (μ ++ [.dct kds, chC f0]) := fun x9 => by
    have := ev_map (F := callI defs k) (own := [("_law_due_here", 13)]) (tg := .nm 13) (it := .val (.var 1)) (e := .slc true (.var 13) .none (.some (.cst (.int 2)))) (env := [some (.t (webT P U)), some (.t (.lst (Dd.map dT))), some d, some (.t (iT (insC ch))), x4, some (.t (iT (outC ch))), some (.ref μ.length), x7, x8, x9, none, none, none, none, none, none]) (μ := μ ++ [.dct kds, chC f0]) (w := []) (fun t : Int × Int × Int => D.t (dT t)) Dd (fun t => pT (t.1, t.2.1)) (by
      simp only [evI, evE, bnd_ap, List.getElem?_cons_zero, List.getElem?_cons_succ, lO_lst, wL_t, List.map_map]
      rfl) (by rw [sizeLine_eq]; omega) (wok_nil _) (fun t _ => ⟨_, rfl, by
        have sl : ∀ μ, slcD true (.t (dT t)) none (some 2) μ = .ok (.t (pT (t.1, t.2.1))) μ := fun μ => rfl
        simp only [wipeD, List.map_cons, List.map_nil, List.set_cons_zero, List.set_cons_succ, evE, evEo, bnd_ap, pur_ap, List.getElem?_cons_zero, List.getElem?_cons_succ, toI, sl]⟩)
    have e : T.lst (Dd.map fun t => pT (t.1, t.2.1)) = plT tied := by
      rw [plT, ← htd, List.map_map]
      rfl
    rw [e] at this
    exact this
  obtain ⟨env', μ', e6, fs, y4, y7, y14, y15, gfs, lfs, rfl, rfl⟩ := for_run (tg := .tp [.nm 4, .nm 7]) (b := fun env => evSs (callI defs k) L_w_next_1 env) (w := []) (fun p : Int × Int => D.t (pT p)) U
    (fun pre env μ' => ∃ (fs : List Ch) (y4 y7 y14 y15 : Option D), (∀ c ∈ fs, Good h c) ∧ fs.length ≤ 40 + 4 * pre.length ∧ env = nxE (some (.t (webT P U))) (some (.t (.lst (Dd.map dT)))) (some d) (insC ch) (outC ch) tied x8 μ y4 y7 y14 y15 ∧ μ' = μ ++ [.dct kds, chC fs])
    (env := nxE (some (.t (webT P U))) (some (.t (.lst (Dd.map dT)))) (some d) (insC ch) (outC ch) tied x8 μ x4 x7 none none) (μ := μ ++ [.dct kds, chC f0])
    ⟨f0, x4, x7, none, none, gf0, by simpa using lf0, rfl, rfl⟩ (fun _ _ _ _ => wok_nil _) (fun pre p post env μ' hx hp => by
      obtain ⟨fs, y4, y7, y14, y15, gfs, lfs, rfl, rfl⟩ := hp
      obtain ⟨a, b⟩ := p
      have hpre : pre.length < 130 := by
        have := congrArg List.length hx
        simp at this
        omega
      have hm : (a, b) ∈ U := by rw [hx]; simp
      have ht := hw.ti _ hm
      have hdu : (a, b) ∈ tied → h a + h b = 2 := fun hm2 => by
        rw [← htd] at hm2
        obtain ⟨t, ht, e⟩ := List.mem_map.mp hm2
        have := hw.du t ht
        cases e
        exact this
      have s1 := nx_step (k := k) (W := some (.t (webT P U))) (DL := some (.t (.lst (Dd.map dT)))) (d := some d) (ins := insC ch) (outs := outC ch) (tied := tied) (x8 := x8) μ kds fs (by omega) a b a b
      have g1 := good_put (fs := fs) (ch := ch) (tied := tied) (a := a) (b := b) (u := a) (v := b) gfs hch ht hdu
      have l1 := put_len fs (mI (outC ch) a = true) ((mI (insC ch) a && decide ((a, b) ∈ tied)) = true) (.be a b) (.ti a b)
      generalize fs ++ (if mI (outC ch) a = true then [Ch.be a b] else []) ++ (if (mI (insC ch) a && decide ((a, b) ∈ tied)) = true then [Ch.ti a b] else []) = fs1 at *
      have s2 := nx_step (k := k) (W := some (.t (webT P U))) (DL := some (.t (.lst (Dd.map dT)))) (d := some d) (ins := insC ch) (outs := outC ch) (tied := tied) (x8 := x8) μ kds fs1 (by omega) a b b a
      have g2 := good_put (fs := fs1) (ch := ch) (tied := tied) (a := a) (b := b) (u := b) (v := a) g1 hch ⟨ht.2.2.1, ht.2.2.2.1, ht.1, ht.2.1, by have := ht.2.2.2.2; simp only at this ⊢; omega⟩ (fun hm2 => by have := hdu hm2; omega)
      have l2 := put_len fs1 (mI (outC ch) b = true) ((mI (insC ch) b && decide ((a, b) ∈ tied)) = true) (.be b a) (.ti b a)
      generalize fs1 ++ (if mI (outC ch) b = true then [Ch.be b a] else []) ++ (if (mI (insC ch) b && decide ((a, b) ∈ tied)) = true then [Ch.ti b a] else []) = fs2 at *
      refine ⟨nxE (some (.t (webT P U))) (some (.t (.lst (Dd.map dT)))) (some d) (insC ch) (outC ch) tied x8 μ (some (.t (.int a))) (some (.t (.int b))) y14 y15, rfl, _, _, ?_, fs2, some (.t (.int a)), some (.t (.int b)), some (.t (.int b)), some (.t (.int a)), g2, by simp only [List.length_append, List.length_singleton]; omega, rfl, rfl⟩
      rw [L_w_next_1]
      have t2 : ∀ a b : Int, ∀ μ, mkTup [.t (.int a), .t (.int b)] μ = .ok (.t (pT (a, b))) μ := fun a b μ => rfl
      have ml : ∀ μ, mkL true [.t (pT (a, b)), .t (pT (b, a))] μ = .ok (.t (.lst [pT (a, b), pT (b, a)])) μ := fun μ => rfl
      have as : ∀ (a b x y : Int) (y14 y15 : Option D), asgT (.tp [.nm 14, .nm 15]) (.t (pT (x, y))) (nxE (some (.t (webT P U))) (some (.t (.lst (Dd.map dT)))) (some d) (insC ch) (outC ch) tied x8 μ (some (.t (.int a))) (some (.t (.int b))) y14 y15) = some (nxE (some (.t (webT P U))) (some (.t (.lst (Dd.map dT)))) (some d) (insC ch) (outC ch) tied x8 μ (some (.t (.int a))) (some (.t (.int b))) (some (.t (.int x))) (some (.t (.int y)))) := fun a b x y y14 y15 => rfl
      have v4 : (nxE (some (.t (webT P U))) (some (.t (.lst (Dd.map dT)))) (some d) (insC ch) (outC ch) tied x8 μ (some (.t (.int a))) (some (.t (.int b))) y14 y15)[4]? = some (some (.t (.int a))) := rfl
      have v7 : (nxE (some (.t (webT P U))) (some (.t (.lst (Dd.map dT)))) (some d) (insC ch) (outC ch) tied x8 μ (some (.t (.int a))) (some (.t (.int b))) y14 y15)[7]? = some (some (.t (.int b))) := rfl
      have a1 := as a b a b y14 y15
      have a2 := as a b b a (some (.t (.int a))) (some (.t (.int b)))
      clear hx hm ht hdu g1 g2 gfs as hw hch hd e1 e2 e3 e4 e5 gf0 hf0 htd
      generalize nxE (some (.t (webT P U))) (some (.t (.lst (Dd.map dT)))) (some d) (insC ch) (outC ch) tied x8 μ (some (.t (.int a))) (some (.t (.int b))) y14 y15 = E0 at *
      generalize nxE (some (.t (webT P U))) (some (.t (.lst (Dd.map dT)))) (some d) (insC ch) (outC ch) tied x8 μ (some (.t (.int a))) (some (.t (.int b))) (some (.t (.int a))) (some (.t (.int b))) = E1 at *
      generalize nxE (some (.t (webT P U))) (some (.t (.lst (Dd.map dT)))) (some d) (insC ch) (outC ch) tied x8 μ (some (.t (.int a))) (some (.t (.int b))) (some (.t (.int b))) (some (.t (.int a))) = E2 at *
      simp only [evSs, evS, evI, evE, evEs, bnd_ap, pur_ap, lift_ap, outO_ap, andThen_ap, v4, v7, t2, ml, lO_lst, wL_t, List.map_cons, List.map_nil, forLoop, if_pos (wok_nil _), a1, a2, s1, s2])
  rw [← mp] at e6
  have nd : ∀ μ : Mem, evE (callI defs k) (.dnew false) [some (.t (webT P U)), some (.t (.lst (Dd.map dT))), some d, some (.t (iT (insC ch))), none, some (.t (iT (outC ch))), none, none, none, none, none, none, none, none, none, none] μ = .ok (.ref μ.length) (μ ++ [.dct []]) := fun μ => rfl
  have nd := nd μ
  have lv : leave .frz μ (.ref (μ.length + 1)) (μ ++ [.dct kds, chC fs]) = .ok (.t (.lst (fs.map cT))) μ := by
    have e : (μ ++ [Cell.dct kds, chC fs])[μ.length + 1]? = some (.lst ((fs.map cT).map D.t)) := by rw [getA]; rfl
    have e2 : frzD (μ ++ [.dct kds, chC fs]) μ.length 4 (.ref (μ.length + 1)) = some (.lst (fs.map cT)) := frzD_lst (k := 3) (by omega) e
    unfold leave
    rw [if_pos (back_app μ _)]
    simp only [e2, List.take_left]
  refine ⟨fs, gfs, by omega, ?_⟩
  unfold nxE at e6
  clear gfs hw hch hd gf0 hf0 htd hk1 gd
  generalize (E.dnew false) = DN at *
  have e5 := e5 (some (.ref (μ.length + 1)))
  generalize webT P U = W at *
  generalize plT tied = TD at *
  generalize iT (insC ch) = I1 at *
  generalize iT (outC ch) = I2 at *
  simp only [plT] at w1 e6
  simp only [evSs, evS, evE, evI, bnd_ap, pur_ap, lift_ap, outO_ap, andThen_ap, asgT, List.getElem?_cons_zero, List.getElem?_cons_succ, List.set_cons_zero, List.set_cons_succ, e1, e2, nd, e3, e4, e5, w1, lO_lst, wL_t, e6, fin, lv]
/-! ### chains are laid -/
theorem LT.cases {μ : Mem} {d : D} {L : List T} (h : LT μ d L) : d = .t (.lst L) ∨ ∃ c, d = .ref c ∧ μ[c]? = some (.lst (L.map D.t)) := by
  cases d with
  | t x =>
    have h1 := h.lst
    cases x with
    | lst ts =>
      have : (some (ts.map D.t)) = some (L.map D.t) := h1
      have := Option.some.inj this
      rw [((List.map_inj_right (fun a b e => by cases e; rfl)).mp this).symm]
      exact .inl rfl
    | _ => have h3 := h.ty; first | (simp [lstOf] at h1; done) | (simp [tyOf] at h3; done)
  | ref c =>
    have h1 := h.lst
    rw [lO_ref] at h1
    split at h1
    · rename_i ds e
      cases h1
      exact .inr ⟨c, rfl, e⟩
    · cases h1
  | tp ds =>
    have h1 := h.lst
    cases h1
theorem eq_nil {μ : Mem} {d : D} {L : List T} {ds : List PyData} (h : LT μ d L) (h1 : toPs L = some ds) (h2 : PyData.canLayAll0 ds = true) (h3 : PyData.depthAll ds ≤ 5) : cmpD .eq d (.t (.lst [])) μ = .ok (.t (.bl L.isEmpty)) μ := by
  have h4 : SeqAt.shaped (.list ds) = true := by
    have he : (PyData.list ds).depth = 1 + PyData.depthAll ds := by simp only [PyData.depth]; try omega
    rw [SeqAt.shaped, he]
    simp only [PyData.canLay0, h2, Bool.true_and, decide_eq_true_eq]
    omega
  have h5 : SeqAt.shaped (.list []) = true := by decide
  have h6 : deepD μ d = some (.list ds) := by
    rcases h.cases with rfl | ⟨c, rfl, hc⟩
    · simp only [deepD, toP, h1, Option.map_some]
    · simp only [deepD, hc, toTs_of, Option.bind_some, h1, Option.map_some]
  have h7 : deepD μ (.t (.lst [])) = some (.list []) := rfl
  have h8 : PyData.eqv (.list ds) (.list []) = L.isEmpty := by
    cases L with
    | nil => simp only [toPs, Option.some.injEq] at h1; rw [← h1]; simp [PyData.eqv, PyData.eqvAll]
    | cons t r =>
      cases ds with
      | nil =>
        simp only [toPs] at h1
        split at h1 <;> cases h1
      | cons _ _ => simp [PyData.eqv, PyData.eqvAll]
  have h9 : eqP μ d (.t (.lst [])) = some L.isEmpty := by
    simp only [eqP, h6, h7, h4, h5, Bool.and_self, if_true, h8]
  have h10 : scalD d (.t (.lst [])) = none := by
    rcases h.cases with rfl | ⟨c, rfl, hc⟩ <;> rfl
  simp only [cmpD, h10, h9]
theorem toPs_ints : ∀ l : List Int, toPs (l.map T.int) = some (l.map PyData.int)
  | [] => rfl
  | n :: l => by simp only [List.map_cons, toPs, toP, toPs_ints l]
theorem lay_ints : ∀ l : List Int, PyData.canLayAll0 (l.map PyData.int) = true
  | [] => rfl
  | n :: l => by simp only [List.map_cons, PyData.canLayAll0, PyData.canLay0, lay_ints l, Bool.and_self]
theorem dep_ints : ∀ l : List Int, PyData.depthAll (l.map PyData.int) ≤ 1
  | [] => by simp [PyData.depthAll]
  | n :: l => by
    have e : (PyData.int n).depth = 0 := rfl
    have := dep_ints l
    simp only [List.map_cons, PyData.depthAll, e]
    omega
theorem ints_isnil (ns : List Int) (μ : Mem) : cmpD .eq (.t (iT ns)) (.t (.lst [])) μ = .ok (.t (.bl ns.isEmpty)) μ := by
  have := eq_nil (LT.frz μ (ns.map T.int)) (toPs_ints ns) (lay_ints ns) (by have := dep_ints ns; omega)
  rw [List.isEmpty_map] at this
  exact this
theorem ints_nenil (ns : List Int) (μ : Mem) : cmpD .ne (.t (iT ns)) (.t (.lst [])) μ = .ok (.t (.bl (!ns.isEmpty))) μ := by
  have := ints_isnil ns μ
  have h10 : scalD (.t (iT ns)) (.t (.lst [])) = none := rfl
  simp only [cmpD, h10] at this ⊢
  cases h : eqP μ (.t (iT ns)) (.t (.lst [])) with
  | none => rw [h] at this; cases this
  | some b =>
    rw [h] at this
    simp only [R.ok.injEq, D.t.injEq, T.bl.injEq, and_true] at this
    rw [this]
def cP : Ch → PyData
  | .lo p => .tuple [.str "loose", .int p]
  | .be u v => .tuple [.str "beside", .int u, .int v]
  | .ti u v => .tuple [.str "tight", .int u, .int v]
theorem toP_cT (c : Ch) : toP (cT c) = some (cP c) := by cases c <;> simp [cT, cP, toP, toPs]
theorem toPs_cT : ∀ l : List Ch, toPs (l.map cT) = some (l.map cP)
  | [] => by simp [toPs]
  | c :: l => by simp [toPs, toP_cT, toPs_cT l]
theorem lay_cP (c : Ch) : (cP c).canLay0 = true := by
  have h1 : PyData.canLay0 (.str ("loose" : Str)) = true := by decide +kernel
  have h2 : PyData.canLay0 (.str ("beside" : Str)) = true := by decide +kernel
  have h3 : PyData.canLay0 (.str ("tight" : Str)) = true := by decide +kernel
  have hi : ∀ i : Int, PyData.canLay0 (.int i) = true := fun i => by simp [PyData.canLay0]
  cases c with
  | lo p =>
    show PyData.canLayAll0 [.str "loose", .int p] = true
    simp only [PyData.canLayAll0, h1, hi, Bool.and_self]
  | be u v =>
    show PyData.canLayAll0 [.str "beside", .int u, .int v] = true
    simp only [PyData.canLayAll0, h2, hi, Bool.and_self]
  | ti u v =>
    show PyData.canLayAll0 [.str "tight", .int u, .int v] = true
    simp only [PyData.canLayAll0, h3, hi, Bool.and_self]
theorem lay_cPs : ∀ l : List Ch, PyData.canLayAll0 (l.map cP) = true
  | [] => by simp [PyData.canLayAll0]
  | c :: l => by simp [PyData.canLayAll0, lay_cP, lay_cPs l]
theorem dep_cPs : ∀ l : List Ch, PyData.depthAll (l.map cP) ≤ 3
  | [] => by simp [PyData.depthAll]
  | c :: l => by
    have e : (cP c).depth ≤ 2 := by cases c <;> simp [cP, PyData.depth, PyData.depthAll]
    have := dep_cPs l
    simp only [List.map_cons, PyData.depthAll]
    omega
theorem ne_of_eq {x y : D} {μ : Mem} {b : Bool} (hs : scalD x y = none) (h : cmpD .eq x y μ = .ok (.t (.bl b)) μ) : cmpD .ne x y μ = .ok (.t (.bl (!b))) μ := by
  simp only [cmpD, hs] at h ⊢
  cases he : eqP μ x y with
  | none => rw [he] at h; cases h
  | some c =>
    rw [he] at h
    simp only [R.ok.injEq, D.t.injEq, T.bl.injEq, and_true] at h
    rw [h]
theorem chs_nenil (fs : List Ch) (μ : Mem) : cmpD .ne (.t (.lst (fs.map cT))) (.t (.lst [])) μ = .ok (.t (.bl (!fs.isEmpty))) μ := by
  have := eq_nil (LT.frz μ (fs.map cT)) (toPs_cT fs) (lay_cPs fs) (by have := dep_cPs fs; omega)
  rw [List.isEmpty_map] at this
  exact ne_of_eq rfl this
theorem ch_at {fs : List Ch} {i : Nat} (h : i < fs.length) : ((fs.map cT).map D.t)[i]? = some (.t (cT fs[i])) := by
  rw [List.getElem?_map, List.getElem?_map, List.getElem?_eq_getElem h]; rfl
theorem idx_ok {n : Nat} {i : Int} (h0 : 0 ≤ i) (h1 : i < (n : Int)) : idx n i = some i.toNat := by
  unfold idx
  rw [if_pos h0, if_pos h1]
theorem ix_lst {L : List T} {i : Int} {t : T} (h : ((idx L.length i).bind fun j => (L.map D.t)[j]?) = some (.t t)) (μ : Mem) : ixD (.t (.lst L)) (.t (.int i)) μ = .ok (.t t) μ := by
  simp only [ixD, dctOf, dctTOf, lstOf, toI, List.length_map, h]
theorem c_w_chain {k : Nat} (hk : 2 ≤ k) (A : Mem) (s : St) (ν : Mem) {h : Int → Int} {P U : PL} {Dd : D3} (hw : WB h P U Dd) :
    ∃ (ch : List Ch) (s' : St), (∀ c ∈ ch, Good h c) ∧ ch.length ≤ 30 ∧ callI defs k F_w_chain [.ref A.length, .t (webT P U), .t (.lst (Dd.map dT)), .t (.int 30)] (A ++ stC s :: ν) = .ok (.t (.lst (ch.map cT))) (A ++ stC s' :: ν) := by
  obtain ⟨k, rfl, hk⟩ := callI_at (defs := defs) (f := 0) hk
  rw [u_w_chain, b_w_chain]
  obtain ⟨n, s1, n0, n1, e1⟩ := c_w_take (k := k) (by omega) A s 31 (ν ++ [chC []]) (by decide) (by decide)
  obtain ⟨env', μ', e2, ch, s2, x5, x6, gch, lch, rfl, rfl⟩ := for_run (tg := .nm 5) (b := fun env => evSs (callI defs k) L_w_chain_0 env) (w := []) (fun (i : Nat) => D.t (.int (0 + (i : Int)))) (List.range n.toNat)
    (fun pre env μ' => ∃ (ch : List Ch) (s : St) (x5 x6 : Option D), (∀ c ∈ ch, Good h c) ∧ ch.length ≤ pre.length ∧ env = [some (.ref A.length), some (.t (webT P U)), some (.t (.lst (Dd.map dT))), some (.t (.int 30)), some (.ref (A.length + (ν.length + 1))), x5, x6] ∧ μ' = A ++ stC s :: (ν ++ [chC ch]))
    (env := [some (.ref A.length), some (.t (webT P U)), some (.t (.lst (Dd.map dT))), some (.t (.int 30)), some (.ref (A.length + (ν.length + 1))), none, none]) (μ := A ++ stC s1 :: (ν ++ [chC []]))
    ⟨[], s1, none, none, fun c hc => (by cases hc), by simp, rfl, rfl⟩ (fun _ _ _ _ => wok_nil _) (fun pre i post env μ' hx hp => by
      obtain ⟨ch, s2, x5, x6, gch, lch, rfl, rfl⟩ := hp
      have hpre : pre.length < 31 := by
        have := congrArg List.length hx
        simp at this
        omega
      have gc : (A ++ stC s2 :: (ν ++ [chC ch]))[A.length + (ν.length + 1)]? = some (chC ch) := by
        rw [getA, List.getElem?_cons_succ, getA0]
        rfl
      obtain ⟨fs, gfs, lfs, e3⟩ := c_w_next (k := k) (by omega) (d := .ref (A.length + (ν.length + 1))) (μ := A ++ stC s2 :: (ν ++ [chC ch])) (.cel gc) hw gch (by omega)
      have z : ∀ μ, mkL true [] μ = .ok (.t (.lst [])) μ := fun μ => mkL_t [] μ (Nat.zero_le _)
      have ne := fun μ => chs_nenil fs μ
      refine ⟨_, rfl, ?_⟩
      simp only [List.set_cons_zero, List.set_cons_succ]
      rw [L_w_chain_0]
      cases he : fs.isEmpty with
      | true =>
        have ne := fun μ => by
          have := ne μ
          rw [he] at this
          exact this
        refine ⟨_, _, ?_, ch, s2, some (.t (.int (0 + (i : Int)))), some (.t (.lst (fs.map cT))), gch, by rw [List.length_append]; omega, rfl, rfl⟩
        clear hx gc gch gfs hw
        generalize (fs.map cT) = F at *
        simp only [evSs, evS, evE, evEs, bnd_ap, pur_ap, lift_ap, outO_ap, andThen_ap, ite_ap, ite_apO, toB_ap, asgT, List.getElem?_cons_zero, List.getElem?_cons_succ, List.set_cons_zero, List.set_cons_succ, e3, z, ne, Bool.not_true, Bool.false_eq_true, if_false]
      | false =>
        have hf : 0 < fs.length := by
          cases fs with
          | nil => cases he
          | cons _ _ => simp
        have ne := fun μ => by
          have := ne μ
          rw [he] at this
          exact this
        obtain ⟨j, s3, j0, j1, e4⟩ := c_w_take (k := k) (by omega) A s2 (fs.length : Int) (ν ++ [chC ch]) (by omega) (by omega)
        have hj : j.toNat < fs.length := by omega
        have e5 : ∀ μ, ixD (.t (.lst (fs.map cT))) (.t (.int j)) μ = .ok (.t (cT fs[j.toNat])) μ := fun μ => ix_lst (by rw [List.length_map, idx_ok j0 j1, Option.bind_some, ch_at hj]) μ
        have ln : ∀ μ, bfnD true .len [.t (.lst (fs.map cT))] μ = .ok (.t (.int (fs.length : Nat))) μ := fun μ => by simp only [bfnD, lO_lst, List.length_map]
        have gc3 : (A ++ stC s3 :: (ν ++ [chC ch]))[A.length + (ν.length + 1)]? = some (chC ch) := by
          rw [getA, List.getElem?_cons_succ, getA0]
          rfl
        have ty : tyOf (A ++ stC s3 :: (ν ++ [chC ch])) (.ref (A.length + (ν.length + 1))) = some .lst := by simp only [tyOf, gc3]
        have ty2 : tyOf (A ++ stC s2 :: (ν ++ [chC ch])) (.ref (A.length + (ν.length + 1))) = some .lst := by simp only [tyOf, gc]
        have ap : mthD .append (.ref (A.length + (ν.length + 1))) [.t (cT fs[j.toNat])] (A ++ stC s3 :: (ν ++ [chC ch])) = .ok (.t .non) (A ++ stC s3 :: (ν ++ [chC (ch ++ [fs[j.toNat]])])) := by
          have z : ((ch.map cT).map D.t).length < 16777216 := by simp; omega
          have st : (A ++ stC s3 :: (ν ++ [chC ch])).set (A.length + (ν.length + 1)) (.lst ((ch.map cT).map D.t ++ [.t (cT fs[j.toNat])])) = A ++ stC s3 :: (ν ++ [chC (ch ++ [fs[j.toNat]])]) := by
            rw [setA, List.set_cons_succ, setA0]
            simp
          simp only [mthD, gc3, sizeLine_eq, z, if_true, st]
        refine ⟨_, _, ?_, ch ++ [fs[j.toNat]], s3, some (.t (.int (0 + (i : Int)))), some (.t (.lst (fs.map cT))), fun c hc => ?_, by rw [List.length_append, List.length_append]; simp; omega, rfl, rfl⟩
        · clear hx gc gc3 gch gfs hw
          generalize (fs.map cT) = F at *
          simp only [evSs, evS, evE, evEs, bnd_ap, pur_ap, lift_ap, outO_ap, andThen_ap, ite_ap, ite_apO, toB_ap, asgT, List.getElem?_cons_zero, List.getElem?_cons_succ, List.set_cons_zero, List.set_cons_succ, e3, z, ne, Bool.not_false, if_true, ln, e4, e5, tyChk, mthT, ty, ty2, ap]
        · rcases List.mem_append.mp hc with hc | hc
          · exact gch c hc
          · rw [List.mem_singleton] at hc
            rw [hc]
            exact gfs _ (List.getElem_mem hj))
  rw [List.length_range] at lch
  refine ⟨ch, s2, gch, by omega, ?_⟩
  rw [← rngD_map] at e2
  have mk0 : mkL false [] (A ++ stC s :: ν) = .ok (.ref (A.length + (ν.length + 1))) (A ++ stC s :: (ν ++ [chC []])) := by
    rw [mkL_c _ _ (Nat.zero_le _)]
    simp
  have ad : ∀ i j : Int, ∀ μ, binD .add (.t (.int i)) (.t (.int j)) μ = .ok (.t (.int (i + j))) μ := fun i j μ => by simp only [binD, bI_add]
  have e31 : (30 : Int) + 1 = 31 := rfl
  have rg : ∀ μ, rngM0 n μ = .ok (rngD 0 n.toNat, []) μ := fun μ => rngM0_ok n μ (by omega) (by omega)
  have lv := leave_sl0 A s s2 ν [] (ch.map cT)
  clear gch lch hw
  generalize webT P U = W at *
  simp only [evSs, evS, evE, evEs, evI, bnd_ap, pur_ap, lift_ap, outO_ap, andThen_ap, asgT, toI, List.getElem?_cons_zero, List.getElem?_cons_succ, List.set_cons_zero, List.set_cons_succ, mk0, ad, e31, e1, rg, e2, fin, lv]
/-! ### the web laid fits its halves -/
def nmA (ns : List Int) (a : Int) : Int := ns.getD a.toNat 0
def InR (n : Nat) (a : Int) : Prop := 0 ≤ a ∧ a < (n : Int)
structure RawOk (hs : List Int) (raw : D3) : Prop where
  a : ∀ r ∈ raw, InR hs.length r.1
  b : ∀ r ∈ raw, InR hs.length r.2.1
  ne : ∀ r ∈ raw, r.1 ≠ r.2.1
  two : ∀ r ∈ raw, 2 ≤ nmA hs r.1 + nmA hs r.2.1
  w : ∀ r ∈ raw, 0 ≤ r.2.2
  due : ∀ r ∈ raw, 0 < r.2.2 → nmA hs r.1 + nmA hs r.2.1 = 2
def HsOk (hs : List Int) : Prop := ∀ x ∈ hs, 0 ≤ x ∧ x ≤ 2
theorem hsAt {hs : List Int} (h : HsOk hs) (a : Int) : 0 ≤ nmA hs a ∧ nmA hs a ≤ 2 := by
  unfold nmA
  rw [List.getD_eq_getElem?_getD]
  cases e : hs[a.toNat]? with
  | none => simp
  | some x =>
    have := h x (List.mem_of_getElem? e)
    simpa using this
theorem ex_h : ∀ (ns hs : List Int), ns.length = hs.length → ns.Nodup → ∃ h : Int → Int, ∀ a, InR ns.length a → h (nmA ns a) = nmA hs a
  | [], _, _, _ => ⟨fun _ => 0, fun a ha => by have := ha.1; have := ha.2; simp at *; omega⟩
  | n :: ns, [], hl, _ => by simp at hl
  | n :: ns, x :: hs, hl, hn => by
    rw [List.nodup_cons] at hn
    obtain ⟨h, hh⟩ := ex_h ns hs (by simpa using hl) hn.2
    refine ⟨fun y => if y = n then x else h y, fun a ha => ?_⟩
    have h0 := ha.1
    have h1 := ha.2
    by_cases e : a = 0
    · subst e
      simp [nmA]
    · have ea : a.toNat = (a - 1).toNat + 1 := by omega
      have e1 : nmA (n :: ns) a = nmA ns (a - 1) := by unfold nmA; rw [ea]; rfl
      have e2 : nmA (x :: hs) a = nmA hs (a - 1) := by unfold nmA; rw [ea]; rfl
      have hr : InR ns.length (a - 1) := ⟨by omega, by simp only [List.length_cons] at h1; omega⟩
      have hm : nmA ns (a - 1) ∈ ns := by
        unfold nmA
        have hlt : (a - 1).toNat < ns.length := by have := hr.2; omega
        rw [List.getD_eq_getElem?_getD, List.getElem?_eq_getElem hlt]
        exact List.getElem_mem hlt
      have hne : ¬ (nmA ns (a - 1) = n) := fun e2 => hn.1 (e2 ▸ hm)
      rw [e1, e2]
      show (if nmA ns (a - 1) = n then x else h (nmA ns (a - 1))) = _
      rw [if_neg hne, hh _ hr]
theorem nm_inj {ns : List Int} (h : ns.Pairwise (· < ·)) {a b : Int} (ha : InR ns.length a) (hb : InR ns.length b) (e : nmA ns a = nmA ns b) : a = b := by
  have la : a.toNat < ns.length := by have := ha.1; have := ha.2; omega
  have lb : b.toNat < ns.length := by have := hb.1; have := hb.2; omega
  unfold nmA at e
  rw [List.getD_eq_getElem?_getD, List.getD_eq_getElem?_getD, List.getElem?_eq_getElem la, List.getElem?_eq_getElem lb] at e
  simp only [Option.getD_some] at e
  have h1 := List.pairwise_iff_getElem.mp h
  have h2 := ha.1
  have h3 := hb.1
  rcases Nat.lt_trichotomy a.toNat b.toNat with hlt | heq | hgt
  · have := h1 _ _ la lb hlt
    omega
  · omega
  · have := h1 _ _ lb la hgt
    omega
def duesL (ns : List Int) (tw : Int) (raw : D3) : D3 := (raw.filter fun r => decide (0 < r.2.2)).map fun r => (nmA ns r.1, nmA ns r.2.1, r.2.2 * tw)
theorem pay_cons (d : Int × Int × Int) (l : D3) (x : Int) : pay (d :: l) x = payOne d x + pay l x := by simp [pay]
theorem pay_dues {ns : List Int} (hn : ns.Pairwise (· < ·)) (tw : Int) : ∀ (raw : D3), (∀ r ∈ raw, InR ns.length r.1 ∧ InR ns.length r.2.1 ∧ 0 ≤ r.2.2) → ∀ i, InR ns.length i → pay (duesL ns tw raw) (nmA ns i) = pay raw i * tw
  | [], _, i, _ => by simp [duesL, pay]
  | r :: raw, h, i, hi => by
    have ih := pay_dues hn tw raw (fun q hq => h q (by simp [hq])) i hi
    obtain ⟨h1, h2, h3⟩ := h r (by simp)
    have e1 : (nmA ns r.1 = nmA ns i) ↔ r.1 = i := ⟨fun e => nm_inj hn h1 hi e, fun e => by rw [e]⟩
    have e2 : (nmA ns r.2.1 = nmA ns i) ↔ r.2.1 = i := ⟨fun e => nm_inj hn h2 hi e, fun e => by rw [e]⟩
    have ed : duesL ns tw (r :: raw) = (if 0 < r.2.2 then [(nmA ns r.1, nmA ns r.2.1, r.2.2 * tw)] else []) ++ duesL ns tw raw := by
      unfold duesL
      rw [List.filter_cons]
      by_cases hw : 0 < r.2.2 <;> simp [hw]
    rw [ed, pay_cons]
    by_cases hw : 0 < r.2.2
    · rw [if_pos hw, List.singleton_append, pay_cons, ih]
      unfold payOne
      simp only [e1, e2]
      have hm : ∀ (c : Prop) [Decidable c], (if c then r.2.2 * tw else 0) = (if c then r.2.2 else 0) * tw := fun c _ => by split <;> simp
      rw [hm, hm, Int.add_mul, Int.add_mul]
    · have h0 : r.2.2 = 0 := by omega
      rw [if_neg hw, List.nil_append, ih]
      have : payOne r i = 0 := by unfold payOne; rw [h0]; split <;> split <;> rfl
      rw [this, Int.zero_add]
theorem wb_of {hs ns : List Int} {raw : D3} {P U : PL} {tw : Int} (hh : HsOk hs) (hr : RawOk hs raw) (hn : ns.Pairwise (· < ·)) (hl : ns.length = hs.length) (hl9 : hs.length ≤ 40) (hraw : raw.length ≤ 130)
    (ev : ∀ i, InR hs.length i → 0 < nmA hs i → pay raw i * tw % 2 = 0)
    (hP : ∀ p ∈ P, ∃ i, InR hs.length i ∧ p.1 = nmA ns i ∧ (nmA hs i ≠ 0 → p.2 = pay raw i * tw / 2)) (nP : P.length ≤ 40)
    (hU : ∀ t ∈ U, ∃ r ∈ raw, t = (nmA ns r.1, nmA ns r.2.1)) (nU : U.length ≤ 130) : ∃ h, WB h P U (duesL ns tw raw) := by
  obtain ⟨h, hx⟩ := ex_h ns hs hl (hn.imp fun h => Int.ne_of_lt h)
  have hx : ∀ a, InR hs.length a → h (nmA ns a) = nmA hs a := fun a ha => hx a (by rw [hl]; exact ha)
  have hrr : ∀ r ∈ raw, InR ns.length r.1 ∧ InR ns.length r.2.1 ∧ 0 ≤ r.2.2 := fun r hm => by rw [hl]; exact ⟨hr.a r hm, hr.b r hm, hr.w r hm⟩
  refine ⟨h, ⟨fun p hp hlt => ?_, fun t ht => ?_, fun t ht => ?_, nP, nU, ?_⟩⟩
  · obtain ⟨i, hi, e1, e2⟩ := hP p hp
    rw [e1, pay_dues hn tw raw hrr i (by rw [hl]; exact hi)] at hlt
    rw [e1, hx i hi]
    by_cases h0 : nmA hs i = 0
    · exact h0
    · exfalso
      have h1 := (hsAt hh i).1
      have h2 := ev i hi (by omega)
      have h3 := e2 h0
      omega
  · obtain ⟨r, hm, rfl⟩ := hU t ht
    have h1 := hx _ (hr.a r hm)
    have h2 := hx _ (hr.b r hm)
    have h3 := hsAt hh r.1
    have h4 := hsAt hh r.2.1
    have h5 := hr.two r hm
    simp only [h1, h2]
    exact ⟨h3.1, h3.2, h4.1, h4.2, h5⟩
  · obtain ⟨r, hm, rfl⟩ := List.mem_map.mp ht
    rw [List.mem_filter, decide_eq_true_eq] at hm
    simp only [hx _ (hr.a r hm.1), hx _ (hr.b r hm.1)]
    exact hr.due r hm.1 hm.2
  · unfold duesL
    rw [List.length_map]
    exact Nat.le_trans (List.length_filter_le _ _) hraw
/-- lists by functions -/
def fl (n : Nat) (f : Int → Int) : List Int := (List.range n).map fun (i : Nat) => f ((i : Nat) : Int)
theorem fl_len (n : Nat) (f : Int → Int) : (fl n f).length = n := by simp [fl]
theorem fl_at {n : Nat} {a : Int} (h : InR n a) (f : Int → Int) : ((fl n f).map fun x => D.t (.int x))[a.toNat]? = some (.t (.int (f a))) := by
  have hlt : a.toNat < n := by have := h.1; have := h.2; omega
  have e : ((a.toNat : Nat) : Int) = a := Int.toNat_of_nonneg h.1
  rw [List.getElem?_map, fl, List.getElem?_map, List.getElem?_range hlt]
  simp [e]
theorem fl_set {n : Nat} {a : Int} (h : InR n a) (f : Int → Int) (v : Int) : ((fl n f).map fun x => D.t (.int x)).set a.toNat (.t (.int v)) = (fl n (fun x => if x = a then v else f x)).map fun x => D.t (.int x) := by
  apply List.ext_getElem
  · simp [fl]
  · intro i h1 h2
    have e : ((a.toNat : Nat) : Int) = a := Int.toNat_of_nonneg h.1
    rw [List.getElem_set]
    simp only [fl, List.getElem_map, List.getElem_range]
    by_cases hi : a.toNat = i
    · rw [if_pos hi, if_pos (by omega)]
    · rw [if_neg hi, if_neg (by omega)]
theorem fl_congr {n : Nat} {f g : Int → Int} (h : ∀ x, f x = g x) : fl n f = fl n g := by
  unfold fl
  exact List.map_congr_left fun i _ => h i
/-! ### prices -/
def MM (A : Mem) (s : St) (ν L : Mem) : Mem := A ++ stC s :: (ν ++ L)
theorem MM_get (A : Mem) (s : St) (ν L : Mem) (i : Nat) : (MM A s ν L)[A.length + ν.length + 1 + i]? = L[i]? := by
  unfold MM
  rw [show A.length + ν.length + 1 + i = A.length + (ν.length + i + 1) by omega, getA, List.getElem?_cons_succ, getA]
theorem MM_len (A : Mem) (s : St) (ν L : Mem) : (MM A s ν L).length = A.length + ν.length + 1 + L.length := by
  unfold MM
  simp only [List.length_append, List.length_cons]
  omega
theorem MM_app (A : Mem) (s : St) (ν L : Mem) (c : Cell) : MM A s ν L ++ [c] = MM A s ν (L ++ [c]) := by
  unfold MM
  simp
theorem MM_set (A : Mem) (s : St) (ν L : Mem) (i : Nat) (c : Cell) : (MM A s ν L).set (A.length + ν.length + 1 + i) c = MM A s ν (L.set i c) := by
  unfold MM
  rw [show A.length + ν.length + 1 + i = A.length + (ν.length + i + 1) by omega, setA, List.set_cons_succ, setA]
theorem MM_take {k : Nat} (hk : 1 ≤ k) (A : Mem) (s : St) (ν L : Mem) (m : Int) (hm : 0 < m) (hm2 : m < 1073741824) :
    ∃ d s', 0 ≤ d ∧ d < m ∧ callI defs k F_w_take [.ref A.length, .t (.int m)] (MM A s ν L) = .ok (.t (.int d)) (MM A s' ν L) := c_w_take hk A s m (ν ++ L) hm hm2
theorem MM_mk (A : Mem) (s : St) (ν L : Mem) (ds : List D) (h : ds.length ≤ 16777216) : mkL false ds (MM A s ν L) = .ok (.ref (A.length + ν.length + 1 + L.length)) (MM A s ν (L ++ [.lst ds])) := by
  rw [mkL_c _ _ (by rw [sizeLine_eq]; exact h), MM_app, MM_len]
theorem set_cell {μ : Mem} {c : Nat} {xs : List D} {i : Int} {d : D} (h : μ[c]? = some (.lst xs)) (h0 : 0 ≤ i) (h1 : i < (xs.length : Int)) : setD (.ref c) (.t (.int i)) d μ = some (μ.set c (.lst (xs.set i.toNat d))) := by
  simp only [setD, h, toI, idx_ok h0 h1]
theorem app_cell {μ : Mem} {c : Nat} {xs : List D} {d : D} (h : μ[c]? = some (.lst xs)) (hl : xs.length < 10000) : mthD .append (.ref c) [d] μ = .ok (.t .non) (μ.set c (.lst (xs ++ [d]))) := by
  have z : xs.length < 16777216 := by omega
  simp only [mthD, h, sizeLine_eq, z, if_true]
theorem ty_cell {μ : Mem} {c : Nat} {xs : List D} (h : μ[c]? = some (.lst xs)) : tyOf μ (.ref c) = some .lst := by simp only [tyOf, h]
theorem ix_fl {μ : Mem} {c n : Nat} {f : Int → Int} {i : Int} (h : μ[c]? = some (iC (fl n f))) (hi : InR n i) : ixD (.ref c) (.t (.int i)) μ = .ok (.t (.int (f i))) μ := by
  refine ix_cell h ?_
  rw [List.length_map, fl_len, idx_ok hi.1 hi.2, Option.bind_some, fl_at hi]
def rT (d : Int × Int × Int) : T := .lst [.int d.1, .int d.2.1, .int d.2.2]
theorem add_ev (i j : Int) (μ : Mem) : binD .add (.t (.int i)) (.t (.int j)) μ = .ok (.t (.int (i + j))) μ := by simp only [binD, bI_add]
section
variable {k : Nat} (A : Mem) (s : St) (ν : Mem) {hs : List Int} {raw : D3} {dr : D}
theorem pr_paid (hraw : ∀ s L, LT (MM A s ν L) dr (raw.map rT)) (hr : RawOk hs raw) (a0 a1 : Option D) :
    ∃ x5 x6 x7, forLoop (.tp [.nm 5, .nm 6, .nm 7]) (fun env => evSs (callI defs k) L_w_priced_5 env) (watchL dr ((raw.map rT).map D.t)) ((raw.map rT).map D.t) [a0, a1, some dr, some (.ref (A.length + ν.length + 1)), none, none, none, none, none, none, none, none, none, none, none, none, none, none] (MM A s ν [iC (fl hs.length fun _ => 0)]) =
      some (.nx [a0, a1, some dr, some (.ref (A.length + ν.length + 1)), none, x5, x6, x7, none, none, none, none, none, none, none, none, none, none], MM A s ν [iC (fl hs.length (pay raw))]) := by
  have mp : ((raw.map rT).map D.t) = raw.map fun d => D.t (rT d) := by rw [List.map_map]; rfl
  obtain ⟨env', μ', e, x5, x6, x7, rfl, rfl⟩ := for_run (tg := .tp [.nm 5, .nm 6, .nm 7]) (b := fun env => evSs (callI defs k) L_w_priced_5 env) (w := watchL dr ((raw.map rT).map D.t)) (fun d : Int × Int × Int => D.t (rT d)) raw
    (fun pre env μ' => ∃ (x5 x6 x7 : Option D), env = [a0, a1, some dr, some (.ref (A.length + ν.length + 1)), none, x5, x6, x7, none, none, none, none, none, none, none, none, none, none] ∧ μ' = MM A s ν [iC (fl hs.length (pay pre))])
    (env := [a0, a1, some dr, some (.ref (A.length + ν.length + 1)), none, none, none, none, none, none, none, none, none, none, none, none, none, none]) (μ := MM A s ν [iC (fl hs.length fun _ => 0)])
    ⟨none, none, none, rfl, rfl⟩ (fun pre env μ ⟨_, _, _, _, e⟩ => e ▸ (hraw s _).wat) (fun pre d post env μ' hx hp => by
      obtain ⟨x5, x6, x7, rfl, rfl⟩ := hp
      obtain ⟨a, b, w⟩ := d
      have hm : (a, b, w) ∈ raw := by rw [hx]; simp
      have ha : InR hs.length a := hr.a _ hm
      have hb : InR hs.length b := hr.b _ hm
      have hab : a ≠ b := hr.ne _ hm
      have g1 : (MM A s ν [iC (fl hs.length (pay pre))])[A.length + ν.length + 1]? = some (iC (fl hs.length (pay pre))) := MM_get A s ν _ 0
      have i1 := ix_fl g1 ha
      have s1 := set_cell (d := .t (.int (pay pre a + w))) g1 ha.1 (by rw [List.length_map, fl_len]; exact ha.2)
      rw [show A.length + ν.length + 1 = A.length + ν.length + 1 + 0 from rfl, MM_set, fl_set ha, List.set_cons_zero] at s1
      have g2 : (MM A s ν [iC (fl hs.length fun x => if x = a then pay pre a + w else pay pre x)])[A.length + ν.length + 1]? = some (iC (fl hs.length fun x => if x = a then pay pre a + w else pay pre x)) := MM_get A s ν _ 0
      have i2 := ix_fl g2 hb
      rw [if_neg (fun e => hab e.symm)] at i2
      have s2 := set_cell (d := .t (.int (pay pre b + w))) g2 hb.1 (by rw [List.length_map, fl_len]; exact hb.2)
      rw [show A.length + ν.length + 1 = A.length + ν.length + 1 + 0 from rfl, MM_set, fl_set hb, List.set_cons_zero] at s2
      have hfin : fl hs.length (fun x => if x = b then pay pre b + w else if x = a then pay pre a + w else pay pre x) = fl hs.length (pay (pre ++ [(a, b, w)])) := fl_congr fun x => by
        rw [pay_snoc]
        simp only [payOne]
        by_cases h1 : x = b
        · subst h1
          rw [if_pos rfl, if_pos rfl, if_neg hab]
          omega
        · rw [if_neg h1]
          by_cases h2 : x = a
          · subst h2
            rw [if_pos rfl, if_pos rfl, if_neg (fun e => h1 e.symm)]
            omega
          · rw [if_neg h2, if_neg (fun e => h2 e.symm), if_neg (fun e => h1 e.symm)]
            omega
      rw [hfin] at s2
      refine ⟨_, rfl, [a0, a1, some dr, some (.ref (A.length + ν.length + 1)), none, some (.t (.int a)), some (.t (.int b)), some (.t (.int w)), none, none, none, none, none, none, none, none, none, none], _, ?_, some (.t (.int a)), some (.t (.int b)), some (.t (.int w)), rfl, rfl⟩
      rw [L_w_priced_5]
      clear hx g1 g2 hm ha hb hab hfin hr hraw
      generalize MM A s ν [iC (fl hs.length (pay pre))] = M0 at *
      generalize MM A s ν [iC (fl hs.length fun x => if x = a then pay pre a + w else pay pre x)] = M1 at *
      simp only [Nat.add_zero] at s1 s2
      simp only [evSs, evS, evE, bnd_ap, lift_ap, outO_ap, andThen_ap, List.getElem?_cons_zero, List.getElem?_cons_succ, List.set_cons_zero, List.set_cons_succ, i1, add_ev, s1, i2, s2])
  rw [← mp] at e
  exact ⟨x5, x6, x7, e⟩
theorem hs_at {hs : List Int} {i : Int} (hi : InR hs.length i) : ((hs.map T.int).map D.t)[i.toNat]? = some (.t (.int (nmA hs i))) := by
  have hlt : i.toNat < hs.length := by have := hi.1; have := hi.2; omega
  rw [List.getElem?_map, List.getElem?_map, List.getElem?_eq_getElem hlt]
  unfold nmA
  rw [List.getD_eq_getElem?_getD, List.getElem?_eq_getElem hlt, Option.getD_some]
  rfl
theorem ix_hs {hs : List Int} {i : Int} (hi : InR hs.length i) (μ : Mem) : ixD (.t (iT hs)) (.t (.int i)) μ = .ok (.t (.int (nmA hs i))) μ :=
  ix_lst (by rw [List.length_map, idx_ok hi.1 hi.2, Option.bind_some, hs_at hi]) μ
/-- the odd ones among the paid -/
theorem pr_twice (hl : hs.length ≤ 40) (a0 : Option D) (x5 x6 x7 : Option D) :
    ∃ mx : Int, (mx = 0 ∨ mx = 1) ∧ (∀ i, InR hs.length i → 0 < nmA hs i → pay raw i % 2 ≤ mx) ∧
    evE (callI defs k) (.mxd true C_w_priced_4 0) [a0, some (.t (iT hs)), some dr, some (.ref (A.length + ν.length + 1)), none, x5, x6, x7, none, none, none, none, none, none, none, none, none, none] (MM A s ν [iC (fl hs.length (pay raw))]) = .ok (.t (.int mx)) (MM A s ν [iC (fl hs.length (pay raw))]) := by
  have e1 : evE (callI defs k) C_w_priced_4 [a0, some (.t (iT hs)), some dr, some (.ref (A.length + ν.length + 1)), none, x5, x6, x7, none, none, none, none, none, none, none, none, none, none] (MM A s ν [iC (fl hs.length (pay raw))]) = .ok (.t (.lst (((List.range hs.length).filter fun i => decide (0 < nmA hs (i : Nat))).map fun (i : Nat) => T.int (pay raw (i : Nat) % 2)))) (MM A s ν [iC (fl hs.length (pay raw))]) := by
    have ln : ∀ μ, bfnD true .len [.t (iT hs)] μ = .ok (.t (.int (hs.length : Nat))) μ := fun μ => by simp only [bfnD, iT, lO_lst, List.length_map]
    have rg : ∀ μ, rngM0 (hs.length : Int) μ = .ok (rngD 0 hs.length, []) μ := fun μ => by
      have := rngM0_ok (hs.length : Int) μ (by omega) (by omega)
      rwa [Int.toNat_natCast] at this
    exact ev_comp (F := callI defs k) (own := [("_law_k", 5)]) (tg := .nm 5) (it := .rng1 (.bfn true .len (.cons (.var 1) .nil))) (ifs := .cons (.cmp .gt (.ix (.var 1) (.var 5)) (.cst (.int 0))) .nil) (e := .bin .mod (.ix (.var 3) (.var 5)) (.cst (.int 2))) (env := [a0, some (.t (iT hs)), some dr, some (.ref (A.length + ν.length + 1)), none, x5, x6, x7, none, none, none, none, none, none, none, none, none, none]) (μ := MM A s ν [iC (fl hs.length (pay raw))]) (w := []) (fun (i : Nat) => D.t (.int (0 + (i : Int)))) (List.range hs.length) (fun i => decide (0 < nmA hs (i : Nat))) (fun i => T.int (pay raw (i : Nat) % 2)) (by
      rw [← rngD_map]
      simp only [evI, evE, evEs, bnd_ap, pur_ap, List.getElem?_cons_zero, List.getElem?_cons_succ, ln, toI, rg]) (by rw [sizeLine_eq, List.length_range]; omega) (wok_nil _) (fun i hi => ⟨_, rfl, by
        have hi2 : InR hs.length (0 + (i : Int)) := by rw [List.mem_range] at hi; exact ⟨by omega, by omega⟩
        rw [Int.zero_add] at hi2
        have h1 := ix_hs hi2 (MM A s ν [iC (fl hs.length (pay raw))])
        have gt : ∀ i j : Int, ∀ μ, cmpD .gt (.t (.int i)) (.t (.int j)) μ = .ok (.t (.bl (decide (j < i)))) μ := fun i j μ => rfl
        simp only [wipeD, List.map_cons, List.map_nil, List.set_cons_zero, List.set_cons_succ, evC, evE, bnd_ap, pur_ap, List.getElem?_cons_zero, List.getElem?_cons_succ, h1, gt, toB_ap, Int.zero_add], fun _ => by
        have hi2 : InR hs.length (0 + (i : Int)) := by rw [List.mem_range] at hi; exact ⟨by omega, by omega⟩
        rw [Int.zero_add] at hi2
        have g1 : (MM A s ν [iC (fl hs.length (pay raw))])[A.length + ν.length + 1]? = some (iC (fl hs.length (pay raw))) := MM_get A s ν _ 0
        have h1 := ix_fl g1 hi2
        have md : ∀ i : Int, ∀ μ, binD .mod (.t (.int i)) (.t (.int 2)) μ = .ok (.t (.int (i % 2))) μ := fun i μ => by
          simp only [binD]
          rw [bI_mod i 2 (by decide)]
        simp only [wipeD, List.map_cons, List.map_nil, List.set_cons_zero, List.set_cons_succ, evE, bnd_ap, pur_ap, List.getElem?_cons_zero, List.getElem?_cons_succ, h1, md, Int.zero_add]⟩)
  obtain ⟨L, hL⟩ : ∃ L, ((List.range hs.length).filter fun i => decide (0 < nmA hs (i : Nat))).map (fun (i : Nat) => pay raw (i : Nat) % 2) = L := ⟨_, rfl⟩
  have hm : ∀ i, InR hs.length i → 0 < nmA hs i → pay raw i % 2 ∈ L := fun i hi h0 => by
    rw [← hL]
    have ei : ((i.toNat : Nat) : Int) = i := Int.toNat_of_nonneg hi.1
    refine List.mem_map.mpr ⟨i.toNat, List.mem_filter.mpr ⟨List.mem_range.mpr (by have := hi.2; omega), by rw [ei]; simpa using h0⟩, by rw [ei]⟩
  have h01 : ∀ x ∈ L, x = 0 ∨ x = 1 := fun x hx => by
    rw [← hL] at hx
    obtain ⟨i, _, rfl⟩ := List.mem_map.mp hx
    omega
  refine ⟨mxOf true 0 L, ?_, fun i hi h0 => ?_, ?_⟩
  · cases L with
    | nil => exact .inl rfl
    | cons x r =>
      have := (MI.fold_max r x).1
      simp only [mxOf, if_true]
      exact h01 _ this
  · have h := hm i hi h0
    cases L with
    | nil => cases h
    | cons x r =>
      have := (MI.fold_max r x).2 _ h
      simp only [mxOf, if_true]
      exact this
  · have e2 : (T.lst (((List.range hs.length).filter fun i => decide (0 < nmA hs (i : Nat))).map fun (i : Nat) => T.int (pay raw (i : Nat) % 2))) = iT L := by
      rw [iT, ← hL, List.map_map]
      rfl
    rw [e2] at e1
    have e3 : (lstOf (MM A s ν [iC (fl hs.length (pay raw))]) (.t (iT L))).bind toIs = some L := by
      simp only [iT, lO_lst, ints_map, Option.bind_some, toIs_of]
    simp only [evE, bnd_ap, e1, mxD, e3]
end
/-! ### numbers and places -/
theorem rng_at {n : Nat} {pre post : List Nat} {i : Nat} (h : List.range n = pre ++ i :: post) : i = pre.length ∧ i < n := by
  have h1 : (List.range n)[pre.length]? = some i := by rw [h]; simp
  have h2 := List.getElem?_eq_some_iff.mp h1
  obtain ⟨h3, h4⟩ := h2
  simp at h3 h4
  omega
theorem pick3 {i : Int} {a b c : Int} (h0 : 0 ≤ i) (h1 : i < 3) (μ : Mem) : ∃ v, ixD (.t (.lst [.int a, .int b, .int c])) (.t (.int i)) μ = .ok (.t (.int v)) μ ∧ (v = a ∨ v = b ∨ v = c) := by
  have : i = 0 ∨ i = 1 ∨ i = 2 := by omega
  rcases this with rfl | rfl | rfl
  · exact ⟨a, rfl, .inl rfl⟩
  · exact ⟨b, rfl, .inr (.inl rfl)⟩
  · exact ⟨c, rfl, .inr (.inr rfl)⟩
abbrev plC (A : PL) : Cell := .lst ((A.map pT).map D.t)
def tailP : Ss := (.cons (.ife (.cmp .gt (.var 13) (.cst (.int 0))) (.cons (.xpr (.mth .append (.var 11) (.cons (.tup (.cons (.var 9) (.cons (.var 13) .nil))) .nil))) (.cons (.xpr (.mth .append (.var 12) (.cons (.tup (.cons (.var 9) (.cons (.ix (.var 1) (.var 5)) .nil))) .nil))) .nil)) .nil) .nil)
def ifeP : S := (.ife (.cmp .eq (.ix (.var 1) (.var 5)) (.cst (.int 0))) (.cons (.asg (.nm 13) (.bfn true .max2 (.cons (.cst (.int 1)) (.cons (.bin .add (.bin .fdiv (.bin .add (.bin .mul (.ix (.var 3) (.var 5)) (.var 8)) (.cst (.int 1))) (.cst (.int 2))) (.call F_w_take (.cons (.var 0) (.cons (.cst (.int 3)) .nil)))) .nil)))) .nil) .nil)
theorem L3_eq : L_w_priced_3 = (.cons (.asg (.nm 9) (.bin .add (.bin .add (.var 9) (.cst (.int 1))) (.call F_w_take (.cons (.var 0) (.cons (.ix (.lst true (.cons (.cst (.int 1)) (.cons (.cst (.int 2)) (.cons (.cst (.int 20)) .nil)))) (.call F_w_take (.cons (.var 0) (.cons (.cst (.int 3)) .nil)))) .nil))))) (.cons (.xpr (.mth .append (.var 10) (.cons (.var 9) .nil))) (.cons (.asg (.nm 13) (.bin .fdiv (.bin .mul (.ix (.var 3) (.var 5)) (.var 8)) (.cst (.int 2)))) (.cons ifeP tailP)))) := rfl
abbrev prE (A ν : Mem) (hs : List Int) (dr : D) (x6 x7 : Option D) (tw num i : Int) (x13 : Option D) : Envv := [some (.ref A.length), some (.t (iT hs)), some dr, some (.ref (A.length + ν.length + 1)), none, some (.t (.int i)), x6, x7, some (.t (.int tw)), some (.t (.int num)), some (.ref (A.length + ν.length + 1 + 1)), some (.ref (A.length + ν.length + 1 + 2)), some (.ref (A.length + ν.length + 1 + 3)), x13, none, none, none, none]
section
variable {k : Nat} (A : Mem) (ν : Mem) {hs : List Int} {raw : D3} {dr : D} (x6 x7 : Option D)
theorem pr_put (s : St) (c0 c1 : Cell) {P H : PL} (hP : P.length ≤ 50) (hH : H.length ≤ 50) (tw x i v : Int) (hi : InR hs.length i) :
    ∃ P' H', P'.length ≤ P.length + 1 ∧ H'.length ≤ H.length + 1 ∧ (P' = P ∨ P' = P ++ [(x, v)]) ∧ evSs (callI defs k) tailP (prE A ν hs dr x6 x7 tw x i (some (.t (.int v)))) (MM A s ν [c0, c1, plC P, plC H]) = some (.nx (prE A ν hs dr x6 x7 tw x i (some (.t (.int v)))), MM A s ν [c0, c1, plC P', plC H']) := by
  have gt : ∀ i j : Int, ∀ μ, cmpD .gt (.t (.int i)) (.t (.int j)) μ = .ok (.t (.bl (decide (j < i)))) μ := fun i j μ => rfl
  rw [tailP]
  unfold prE
  cases hv : decide (0 < v) with
  | false =>
    refine ⟨P, H, by omega, by omega, .inl rfl, ?_⟩
    simp only [evSs, evS, evE, bnd_ap, pur_ap, lift_ap, outO_ap, andThen_ap, ite_apO, toB_ap, List.getElem?_cons_zero, List.getElem?_cons_succ, gt, hv, Bool.false_eq_true, if_false]
  | true =>
    refine ⟨P ++ [(x, v)], H ++ [(x, nmA hs i)], by simp, by simp, .inr rfl, ?_⟩
    have g1 : (MM A s ν [c0, c1, plC P, plC H])[A.length + ν.length + 1 + 2]? = some (plC P) := MM_get A s ν _ 2
    have a1 := app_cell (d := .t (pT (x, v))) g1 (by simp; omega)
    rw [MM_set] at a1
    have e1 : MM A s ν (([c0, c1, plC P, plC H] : Mem).set 2 (.lst ((P.map pT).map D.t ++ [.t (pT (x, v))]))) = MM A s ν [c0, c1, plC (P ++ [(x, v)]), plC H] := by simp [plC]
    rw [e1] at a1
    have t1 := ty_cell g1
    have g2 : (MM A s ν [c0, c1, plC (P ++ [(x, v)]), plC H])[A.length + ν.length + 1 + 3]? = some (plC H) := MM_get A s ν _ 3
    have a2 := app_cell (d := .t (pT (x, nmA hs i))) g2 (by simp; omega)
    rw [MM_set] at a2
    have e2 : MM A s ν (([c0, c1, plC (P ++ [(x, v)]), plC H] : Mem).set 3 (.lst ((H.map pT).map D.t ++ [.t (pT (x, nmA hs i))]))) = MM A s ν [c0, c1, plC (P ++ [(x, v)]), plC (H ++ [(x, nmA hs i)])] := by simp [plC]
    rw [e2] at a2
    have t2 := ty_cell g2
    have ih := fun μ => ix_hs hi μ
    have mt : ∀ a b : Int, ∀ μ, mkTup [.t (.int a), .t (.int b)] μ = .ok (.t (pT (a, b))) μ := fun a b μ => rfl
    clear g1 g2 e1 e2
    simp only [evSs, evS, evE, evEs, bnd_ap, pur_ap, lift_ap, outO_ap, andThen_ap, ite_apO, toB_ap, List.getElem?_cons_zero, List.getElem?_cons_succ, gt, hv, if_true, tyChk, mthT, t1, mt, a1, t2, ih, a2]
theorem pr_price (hk : 1 ≤ k) (s : St) (c1 c2 c3 : Cell) {n : Nat} (tw x i v : Int) (tw0 : tw = 1 ∨ tw = 2) (hi : InR hs.length i) (hv : v = pay raw i * tw / 2) :
    ∃ v' s', (nmA hs i ≠ 0 → v' = pay raw i * tw / 2) ∧ evS (callI defs k) ifeP (prE A ν hs dr x6 x7 tw x i (some (.t (.int v)))) (MM A s ν [iC (fl hs.length (pay raw)), c1, c2, c3]) = some (.nx (prE A ν hs dr x6 x7 tw x i (some (.t (.int v')))), MM A s' ν [iC (fl hs.length (pay raw)), c1, c2, c3]) := by
  have eq : ∀ i j : Int, ∀ μ, cmpD .eq (.t (.int i)) (.t (.int j)) μ = .ok (.t (.bl (i == j))) μ := fun i j μ => rfl
  have ih := fun μ => ix_hs hi μ
  rw [ifeP]
  unfold prE
  cases h0 : (nmA hs i == 0) with
  | false =>
    refine ⟨v, s, fun _ => hv, ?_⟩
    simp only [evSs, evS, evE, bnd_ap, pur_ap, lift_ap, outO_ap, ite_apO, toB_ap, List.getElem?_cons_zero, List.getElem?_cons_succ, ih, eq, h0, Bool.false_eq_true, if_false]
  | true =>
    obtain ⟨t, s', t0, t1, e1⟩ := MM_take (k := k) hk A s ν [iC (fl hs.length (pay raw)), c1, c2, c3] 3 (by decide) (by decide)
    refine ⟨(if (pay raw i * tw + 1) / 2 + t > 1 then (pay raw i * tw + 1) / 2 + t else 1), s', fun hn => absurd (by simpa using h0) hn, ?_⟩
    have g1 : ∀ s, (MM A s ν [iC (fl hs.length (pay raw)), c1, c2, c3])[A.length + ν.length + 1]? = some (iC (fl hs.length (pay raw))) := fun s => MM_get A s ν _ 0
    have i1 := ix_fl (g1 s) hi
    have ml : ∀ i : Int, ∀ μ, binD .mul (.t (.int i)) (.t (.int tw)) μ = .ok (.t (.int (i * tw))) μ := fun i μ => by
      simp only [binD]
      rw [bI_mulr i tw (by omega) (by omega)]
    have dv : ∀ i : Int, ∀ μ, binD .fdiv (.t (.int i)) (.t (.int 2)) μ = .ok (.t (.int (i / 2))) μ := fun i μ => by
      simp only [binD]
      rw [bI_fdiv i 2 (by decide) (by decide)]
    have mx : ∀ j : Int, ∀ μ, bfnD true .max2 [.t (.int 1), .t (.int j)] μ = .ok (.t (.int (if j > 1 then j else 1))) μ := fun j μ => rfl
    clear g1
    simp only [evSs, evS, evE, evEs, bnd_ap, pur_ap, lift_ap, outO_ap, andThen_ap, ite_apO, toB_ap, asgT, List.getElem?_cons_zero, List.getElem?_cons_succ, List.set_cons_zero, List.set_cons_succ, ih, eq, h0, if_true, i1, ml, add_ev, dv, e1, mx]
theorem pr_names (hk : 1 ≤ k) (s : St) (hl : hs.length ≤ 40) (tw : Int) (tw0 : tw = 1 ∨ tw = 2) (x5 : Option D) :
    ∃ (ns : List Int) (P H : PL) (num : Int) (s' : St) (y5 y13 : Option D), ns.length = hs.length ∧ ns.Pairwise (· < ·) ∧ (∀ p ∈ P, ∃ i, InR hs.length i ∧ p.1 = nmA ns i ∧ (nmA hs i ≠ 0 → p.2 = pay raw i * tw / 2)) ∧ P.length ≤ 40 ∧ H.length ≤ 40 ∧
      forLoop (.nm 5) (fun env => evSs (callI defs k) L_w_priced_3 env) [] (rngD 0 hs.length) [some (.ref A.length), some (.t (iT hs)), some dr, some (.ref (A.length + ν.length + 1)), none, x5, x6, x7, some (.t (.int tw)), some (.t (.int (-1))), some (.ref (A.length + ν.length + 1 + 1)), some (.ref (A.length + ν.length + 1 + 2)), some (.ref (A.length + ν.length + 1 + 3)), none, none, none, none, none] (MM A s ν [iC (fl hs.length (pay raw)), iC [], plC [], plC []]) =
        some (.nx [some (.ref A.length), some (.t (iT hs)), some dr, some (.ref (A.length + ν.length + 1)), none, y5, x6, x7, some (.t (.int tw)), some (.t (.int num)), some (.ref (A.length + ν.length + 1 + 1)), some (.ref (A.length + ν.length + 1 + 2)), some (.ref (A.length + ν.length + 1 + 3)), y13, none, none, none, none], MM A s' ν [iC (fl hs.length (pay raw)), iC ns, plC P, plC H]) := by
  obtain ⟨env', μ', e, ns, P, H, num, s', y5, y13, hln, hpw, hle, hP, lP, lH, rfl, rfl⟩ := for_run (tg := .nm 5) (b := fun env => evSs (callI defs k) L_w_priced_3 env) (w := []) (fun (i : Nat) => D.t (.int (0 + (i : Int)))) (List.range hs.length)
    (fun pre env μ' => ∃ (ns : List Int) (P H : PL) (num : Int) (s : St) (y5 y13 : Option D), ns.length = pre.length ∧ ns.Pairwise (· < ·) ∧ (∀ x ∈ ns, x ≤ num) ∧ (∀ p ∈ P, ∃ i, InR pre.length i ∧ p.1 = nmA ns i ∧ (nmA hs i ≠ 0 → p.2 = pay raw i * tw / 2)) ∧ P.length ≤ pre.length ∧ H.length ≤ pre.length ∧
      env = [some (.ref A.length), some (.t (iT hs)), some dr, some (.ref (A.length + ν.length + 1)), none, y5, x6, x7, some (.t (.int tw)), some (.t (.int num)), some (.ref (A.length + ν.length + 1 + 1)), some (.ref (A.length + ν.length + 1 + 2)), some (.ref (A.length + ν.length + 1 + 3)), y13, none, none, none, none] ∧ μ' = MM A s ν [iC (fl hs.length (pay raw)), iC ns, plC P, plC H])
    (env := [some (.ref A.length), some (.t (iT hs)), some dr, some (.ref (A.length + ν.length + 1)), none, x5, x6, x7, some (.t (.int tw)), some (.t (.int (-1))), some (.ref (A.length + ν.length + 1 + 1)), some (.ref (A.length + ν.length + 1 + 2)), some (.ref (A.length + ν.length + 1 + 3)), none, none, none, none, none]) (μ := MM A s ν [iC (fl hs.length (pay raw)), iC [], plC [], plC []])
    ⟨[], [], [], -1, s, x5, none, rfl, .nil, fun x hx => (by cases hx), fun p hp => (by cases hp), by simp, by simp, rfl, rfl⟩ (fun _ _ _ _ => wok_nil _) (fun pre i post env μ' hx hp => by
      obtain ⟨ns, P, H, num, s1, y5, y13, hln, hpw, hle, hP, lP, lH, rfl, rfl⟩ := hp
      obtain ⟨hi, hi2⟩ := rng_at hx
      subst hi
      have hiR : InR hs.length (0 + (pre.length : Int)) := ⟨by omega, by omega⟩
      obtain ⟨j, s2, j0, j1, e1⟩ := MM_take (k := k) hk A s1 ν [iC (fl hs.length (pay raw)), iC ns, plC P, plC H] 3 (by decide) (by decide)
      obtain ⟨v, e2, hv⟩ := pick3 (a := 1) (b := 2) (c := 20) j0 j1 (MM A s2 ν [iC (fl hs.length (pay raw)), iC ns, plC P, plC H])
      obtain ⟨d, s3, d0, d1, e3⟩ := MM_take (k := k) hk A s2 ν [iC (fl hs.length (pay raw)), iC ns, plC P, plC H] v (by omega) (by omega)
      have g1 : (MM A s3 ν [iC (fl hs.length (pay raw)), iC ns, plC P, plC H])[A.length + ν.length + 1 + 1]? = some (iC ns) := MM_get A s3 ν _ 1
      have a1 := app_cell (d := .t (.int (num + 1 + d))) g1 (by simp; omega)
      rw [MM_set] at a1
      have ea : MM A s3 ν (([iC (fl hs.length (pay raw)), iC ns, plC P, plC H] : Mem).set 1 (.lst (ns.map (fun n => D.t (.int n)) ++ [.t (.int (num + 1 + d))]))) = MM A s3 ν [iC (fl hs.length (pay raw)), iC (ns ++ [num + 1 + d]), plC P, plC H] := by simp [iC]
      rw [ea] at a1
      have t1 := ty_cell g1
      have g0 : (MM A s3 ν [iC (fl hs.length (pay raw)), iC (ns ++ [num + 1 + d]), plC P, plC H])[A.length + ν.length + 1]? = some (iC (fl hs.length (pay raw))) := MM_get A s3 ν _ 0
      have i1 := ix_fl g0 hiR
      obtain ⟨v', s4, hv', e4⟩ := pr_price (k := k) A ν (hs := hs) (raw := raw) (dr := dr) x6 x7 hk s3 (iC (ns ++ [num + 1 + d])) (plC P) (plC H) (n := 0) tw (num + 1 + d) (0 + (pre.length : Int)) (pay raw (0 + (pre.length : Int)) * tw / 2) tw0 hiR rfl
      obtain ⟨P', H', lP', lH', hP', e5⟩ := pr_put (k := k) A ν (hs := hs) (dr := dr) x6 x7 s4 (iC (fl hs.length (pay raw))) (iC (ns ++ [num + 1 + d])) (P := P) (H := H) (by omega) (by omega) tw (num + 1 + d) (0 + (pre.length : Int)) v' hiR
      refine ⟨_, rfl, prE A ν hs dr x6 x7 tw (num + 1 + d) (0 + (pre.length : Int)) (some (.t (.int v'))), _, ?_, ns ++ [num + 1 + d], P', H', num + 1 + d, s4, some (.t (.int (0 + (pre.length : Int)))), some (.t (.int v')), by simp [hln], ?_, ?_, ?_, by simp; omega, by simp; omega, rfl, rfl⟩
      · rw [L3_eq]
        have mk3 : ∀ μ, mkL true [.t (.int 1), .t (.int 2), .t (.int 20)] μ = .ok (.t (.lst [.int 1, .int 2, .int 20])) μ := fun μ => rfl
        have ml : ∀ i : Int, ∀ μ, binD .mul (.t (.int i)) (.t (.int tw)) μ = .ok (.t (.int (i * tw))) μ := fun i μ => by
          simp only [binD]
          rw [bI_mulr i tw (by omega) (by omega)]
        have dv : ∀ i : Int, ∀ μ, binD .fdiv (.t (.int i)) (.t (.int 2)) μ = .ok (.t (.int (i / 2))) μ := fun i μ => by
          simp only [binD]
          rw [bI_fdiv i 2 (by decide) (by decide)]
        have e2 := e2
        unfold prE at e4 e5
        clear hx hP hP' hpw hle g1 g0 ea hv' hln
        generalize ifeP = IP at *
        generalize tailP = TP at *
        simp only [evSs, evS, evE, evEs, bnd_ap, pur_ap, lift_ap, outO_ap, andThen_ap, asgT, List.getElem?_cons_zero, List.getElem?_cons_succ, List.set_cons_zero, List.set_cons_succ, mk3, e1, e2, e3, add_ev, tyChk, mthT, t1, a1, i1, ml, dv, if_true]
        rw [e4]
        simp only []
        rw [e5]
      · rw [List.pairwise_append]
        exact ⟨hpw, List.pairwise_singleton _ _, fun a ha b hb => by
          rw [List.mem_singleton] at hb
          have := hle a ha
          omega⟩
      · intro x hx
        rcases List.mem_append.mp hx with hx | hx
        · have := hle x hx
          omega
        · rw [List.mem_singleton] at hx
          omega
      · have old : ∀ p ∈ P, ∃ i, InR (pre ++ [pre.length]).length i ∧ p.1 = nmA (ns ++ [num + 1 + d]) i ∧ (nmA hs i ≠ 0 → p.2 = pay raw i * tw / 2) := fun p hp => by
          obtain ⟨i, hi, q1, q2⟩ := hP p hp
          have h1 := hi.1
          have h2 := hi.2
          refine ⟨i, ⟨h1, by simp; omega⟩, ?_, q2⟩
          rw [q1]
          unfold nmA
          rw [List.getD_eq_getElem?_getD, List.getD_eq_getElem?_getD, List.getElem?_append_left (by omega)]
        rcases hP' with rfl | rfl
        · exact old
        · intro p hp
          rcases List.mem_append.mp hp with hp | hp
          · exact old p hp
          · rw [List.mem_singleton] at hp
            subst hp
            refine ⟨0 + (pre.length : Int), ⟨by omega, by rw [List.length_append, List.length_singleton]; omega⟩, ?_, hv'⟩
            unfold nmA
            have et : (0 + (pre.length : Int)).toNat = ns.length := by omega
            rw [et, List.getD_eq_getElem?_getD, List.getElem?_append_right (Nat.le_refl _)]
            simp)
  rw [← rngD_map] at e
  rw [List.length_range] at hln lP lH hP
  exact ⟨ns, P, H, num, s', y5, y13, hln, hpw, hP, by omega, by omega, e⟩
end
/-! ### what is priced -/
theorem nm_at {ns : List Int} {a : Int} (h : InR ns.length a) : (ns.map fun n => D.t (.int n))[a.toNat]? = some (.t (.int (nmA ns a))) := by
  have := hs_at h
  rwa [ints_map] at this
theorem ix_nm {μ : Mem} {c : Nat} {ns : List Int} {i : Int} (h : μ[c]? = some (iC ns)) (hi : InR ns.length i) : ixD (.ref c) (.t (.int i)) μ = .ok (.t (.int (nmA ns i))) μ := by
  refine ix_cell h ?_
  rw [List.length_map, idx_ok hi.1 hi.2, Option.bind_some, nm_at hi]
theorem c_w_priced {k : Nat} (hk : 2 ≤ k) (A : Mem) (s : St) (ν : Mem) {hs : List Int} {raw : D3} {dr : D} (hraw : ∀ s L, LT (MM A s ν L) dr (raw.map rT)) (hh : HsOk hs) (hr : RawOk hs raw) (hl : hs.length ≤ 40) (hlr : raw.length ≤ 130) :
    ∃ (h : Int → Int) (P U H : PL) (Dd : D3) (s' : St), WB h P U Dd ∧ callI defs k F_w_priced [.ref A.length, .t (iT hs), dr] (A ++ stC s :: ν) = .ok (.t (.tup [webT P U, plT H, .lst (Dd.map dT)])) (A ++ stC s' :: ν) := by
  obtain ⟨k, rfl, hk⟩ := callI_at (defs := defs) (f := 0) hk
  rw [u_w_priced, b_w_priced]
  have hmm : A ++ stC s :: ν = MM A s ν [] := by unfold MM; simp
  obtain ⟨x5, x6, x7, e1⟩ := pr_paid (k := k) A s ν hraw hr (some (.ref A.length)) (some (.t (iT hs)))
  obtain ⟨mx, hmx, hev, e2⟩ := pr_twice (k := k) A s ν (raw := raw) (dr := dr) hl (some (.ref A.length)) x5 x6 x7
  have tw0 : 1 + mx = 1 ∨ 1 + mx = 2 := by omega
  obtain ⟨ns, P, H, num, s', y5, y13, hln, hpw, hP, lP, lH, e3⟩ := pr_names (k := k) A ν (hs := hs) (raw := raw) (dr := dr) x6 x7 (by omega) s hl (1 + mx) tw0 x5
  obtain ⟨kept, hkept⟩ : ∃ kept, H.map (·.1) = kept := ⟨_, rfl⟩
  obtain ⟨U, hU⟩ : ∃ U : PL, ((raw.filter fun r => mI kept (nmA ns r.1) && mI kept (nmA ns r.2.1)).map fun r => (nmA ns r.1, nmA ns r.2.1)) = U := ⟨_, rfl⟩
  have hev2 : ∀ i, InR hs.length i → 0 < nmA hs i → pay raw i * (1 + mx) % 2 = 0 := fun i hi h0 => by
    have h1 := hev i hi h0
    rcases hmx with e | e
    · subst e
      rw [Int.add_zero, Int.mul_one]
      omega
    · subst e
      omega
  have nU : U.length ≤ 130 := by
    rw [← hU, List.length_map]
    exact Nat.le_trans (List.length_filter_le _ _) hlr
  obtain ⟨h, hwb⟩ := wb_of (tw := 1 + mx) hh hr hpw hln hl hlr hev2 hP lP (U := U) (fun t ht => by
    rw [← hU] at ht
    obtain ⟨r, hm, rfl⟩ := List.mem_map.mp ht
    exact ⟨r, (List.mem_filter.mp hm).1, rfl⟩) nU
  refine ⟨h, P, U, H, duesL ns (1 + mx) raw, s', hwb, ?_⟩
  -- the evaluation
  have c0 : evE (callI defs k) C_w_priced_6 [some (.ref A.length), some (.t (iT hs)), some dr, none, none, none, none, none, none, none, none, none, none, none, none, none, none, none] (MM A s ν []) = .ok (.ref (A.length + ν.length + 1)) (MM A s ν [iC (fl hs.length fun _ => 0)]) := by
    have := ev_mapc (F := callI defs k) (own := [("_law_h", 4)]) (tg := .nm 4) (it := .val (.var 1)) (e := .cst (.int 0)) (env := [some (.ref A.length), some (.t (iT hs)), some dr, none, none, none, none, none, none, none, none, none, none, none, none, none, none, none]) (μ := MM A s ν []) (w := []) (fun x : Int => D.t (.int x)) hs (fun _ => T.int 0) (by
      simp only [evI, evE, bnd_ap, List.getElem?_cons_zero, List.getElem?_cons_succ, iT, lO_lst, wL_t, ints_map]) (by rw [sizeLine_eq]; omega) (wok_nil _) (fun x _ => ⟨_, rfl, rfl⟩)
    rw [MM_len, MM_app] at this
    have e : ((hs.map fun _ => T.int 0).map D.t) = (fl hs.length fun _ => 0).map fun n => D.t (.int n) := by
      rw [fl, List.map_map, List.map_map]
      have : ∀ (l : List Int) (f g : Nat → D), (∀ i, f i = D.t (.int 0)) → l.map (D.t ∘ fun _ => T.int 0) = (List.range l.length).map f := fun l f g hf => by
        rw [List.map_congr_left (g := fun _ => D.t (.int 0)) (fun i _ => hf i), List.map_const', List.length_range]
        show l.map (fun _ => D.t (.int 0)) = _
        rw [List.map_const']
      exact this hs _ (fun _ => D.t (.int 0)) (fun i => rfl)
    rw [e] at this
    exact this
  have lraw := (hraw s [iC (fl hs.length fun _ => 0)]).lst
  have mk1 : mkL false [] (MM A s ν [iC (fl hs.length (pay raw))]) = .ok (.ref (A.length + ν.length + 1 + 1)) (MM A s ν [iC (fl hs.length (pay raw)), iC []]) := MM_mk A s ν [_] [] (by simp)
  have mk2 : mkL false [] (MM A s ν [iC (fl hs.length (pay raw)), iC []]) = .ok (.ref (A.length + ν.length + 1 + 2)) (MM A s ν [iC (fl hs.length (pay raw)), iC [], plC []]) := MM_mk A s ν [_, _] [] (by simp)
  have mk3 : mkL false [] (MM A s ν [iC (fl hs.length (pay raw)), iC [], plC []]) = .ok (.ref (A.length + ν.length + 1 + 3)) (MM A s ν [iC (fl hs.length (pay raw)), iC [], plC [], plC []]) := MM_mk A s ν [_, _, _] [] (by simp)
  have ln : ∀ μ, bfnD true .len [.t (iT hs)] μ = .ok (.t (.int (hs.length : Nat))) μ := fun μ => by simp only [bfnD, iT, lO_lst, List.length_map]
  have rg : ∀ μ, rngM0 (hs.length : Int) μ = .ok (rngD 0 hs.length, []) μ := fun μ => by
    have := rngM0_ok (hs.length : Int) μ (by omega) (by omega)
    rwa [Int.toNat_natCast] at this
  obtain ⟨M, hM⟩ : ∃ M, MM A s' ν [iC (fl hs.length (pay raw)), iC ns, plC P, plC H] = M := ⟨_, rfl⟩
  have gn : M[A.length + ν.length + 1 + 1]? = some (iC ns) := by rw [← hM]; exact MM_get A s' ν _ 1
  have gP : M[A.length + ν.length + 1 + 2]? = some (plC P) := by rw [← hM]; exact MM_get A s' ν _ 2
  have gH : M[A.length + ν.length + 1 + 3]? = some (plC H) := by rw [← hM]; exact MM_get A s' ν _ 3
  have lr : LT M dr (raw.map rT) := by rw [← hM]; exact hraw s' _
  have lrl := lr.lst
  have mp : ∀ ps : PL, (ps.map pT).map D.t = ps.map fun p => D.t (pT p) := fun ps => by rw [List.map_map]; rfl
  have mr : ((raw.map rT).map D.t) = raw.map fun d => D.t (rT d) := by rw [List.map_map]; rfl
  have ln' : ∀ r ∈ raw, InR ns.length r.1 ∧ InR ns.length r.2.1 := fun r hm => by rw [hln]; exact ⟨hr.a r hm, hr.b r hm⟩
  have c1 : evE (callI defs k) C_w_priced_2 [some (.ref A.length), some (.t (iT hs)), some dr, some (.ref (A.length + ν.length + 1)), none, y5, x6, x7, some (.t (.int (1 + mx))), some (.t (.int num)), some (.ref (A.length + ν.length + 1 + 1)), some (.ref (A.length + ν.length + 1 + 2)), some (.ref (A.length + ν.length + 1 + 3)), y13, none, none, none, none] M = .ok (.t (iT kept)) M := by
    have lH : lstOf M (.ref (A.length + ν.length + 1 + 3)) = some ((H.map pT).map D.t) := by simp only [lO_ref, gH]
    have := ev_map (F := callI defs k) (own := [("_law_place", 15), ("_law_h", 4)]) (tg := .tp [.nm 15, .nm 4]) (it := .val (.var 12)) (e := .var 15) (env := [some (.ref A.length), some (.t (iT hs)), some dr, some (.ref (A.length + ν.length + 1)), none, y5, x6, x7, some (.t (.int (1 + mx))), some (.t (.int num)), some (.ref (A.length + ν.length + 1 + 1)), some (.ref (A.length + ν.length + 1 + 2)), some (.ref (A.length + ν.length + 1 + 3)), y13, none, none, none, none]) (μ := M) (w := [(A.length + ν.length + 1 + 3, (H.map pT).map D.t)]) (fun p : Int × Int => D.t (pT p)) H (fun p => T.int p.1) (by
      simp only [evI, evE, bnd_ap, List.getElem?_cons_zero, List.getElem?_cons_succ, lH, wL_ref, mp]) (by rw [sizeLine_eq]; omega) (fun p hp => by
        rw [List.mem_singleton] at hp
        rw [hp]
        exact gH) (fun x _ => ⟨_, rfl, rfl⟩)
    have e : T.lst (H.map fun p => T.int p.1) = iT kept := by
      rw [iT, ← hkept, List.map_map]
      rfl
    rw [e] at this
    exact this
  have c2 : evE (callI defs k) C_w_priced_1 [some (.ref A.length), some (.t (iT hs)), some dr, some (.ref (A.length + ν.length + 1)), none, y5, x6, x7, some (.t (.int (1 + mx))), some (.t (.int num)), some (.ref (A.length + ν.length + 1 + 1)), some (.ref (A.length + ν.length + 1 + 2)), some (.ref (A.length + ν.length + 1 + 3)), y13, some (.t (iT kept)), none, none, none] M = .ok (.t (plT U)) M := by
    have := ev_comp (F := callI defs k) (own := [("_law_k", 5), ("_law_j", 6), ("_law_due_here", 7)]) (tg := .tp [.nm 5, .nm 6, .nm 7]) (it := .val (.var 2)) (ifs := (.cons (.and (.cmp .mem (.ix (.var 10) (.var 5)) (.var 14)) (.cmp .mem (.ix (.var 10) (.var 6)) (.var 14))) .nil)) (e := (.tup (.cons (.ix (.var 10) (.var 5)) (.cons (.ix (.var 10) (.var 6)) .nil)))) (env := [some (.ref A.length), some (.t (iT hs)), some dr, some (.ref (A.length + ν.length + 1)), none, y5, x6, x7, some (.t (.int (1 + mx))), some (.t (.int num)), some (.ref (A.length + ν.length + 1 + 1)), some (.ref (A.length + ν.length + 1 + 2)), some (.ref (A.length + ν.length + 1 + 3)), y13, some (.t (iT kept)), none, none, none]) (μ := M) (w := watchL dr ((raw.map rT).map D.t)) (fun r : Int × Int × Int => D.t (rT r)) raw (fun r => mI kept (nmA ns r.1) && mI kept (nmA ns r.2.1)) (fun r => pT (nmA ns r.1, nmA ns r.2.1)) (by
      simp only [evI, evE, bnd_ap, List.getElem?_cons_zero, List.getElem?_cons_succ, lrl, mr]) (by rw [sizeLine_eq]; omega) lr.wat (fun r hm => ⟨[some (.ref A.length), some (.t (iT hs)), some dr, some (.ref (A.length + ν.length + 1)), none, some (.t (.int r.1)), some (.t (.int r.2.1)), some (.t (.int r.2.2)), some (.t (.int (1 + mx))), some (.t (.int num)), some (.ref (A.length + ν.length + 1 + 1)), some (.ref (A.length + ν.length + 1 + 2)), some (.ref (A.length + ν.length + 1 + 3)), y13, some (.t (iT kept)), none, none, none], rfl, by
        have q1 := ix_nm gn (ln' r hm).1
        have q2 := ix_nm gn (ln' r hm).2
        have m1 : ∀ i : Int, cmpD .mem (.t (.int i)) (.t (iT kept)) M = .ok (.t (.bl (mI kept i))) M := fun i => by simp only [cmpD, mem_mI]
        cases h1 : mI kept (nmA ns r.1) with
        | true => simp only [evC, evE, bnd_ap, pur_ap, List.getElem?_cons_zero, List.getElem?_cons_succ, q1, q2, m1, h1, toB_ap, ite_ap, if_true, Bool.true_and]
        | false => simp only [evC, evE, bnd_ap, pur_ap, List.getElem?_cons_zero, List.getElem?_cons_succ, q1, q2, m1, h1, toB_ap, ite_ap, Bool.false_eq_true, if_false, Bool.false_and], fun _ => by
        have q1 := ix_nm gn (ln' r hm).1
        have q2 := ix_nm gn (ln' r hm).2
        have mt : ∀ a b : Int, ∀ μ, mkTup [.t (.int a), .t (.int b)] μ = .ok (.t (pT (a, b))) μ := fun a b μ => rfl
        simp only [evE, evEs, bnd_ap, pur_ap, List.getElem?_cons_zero, List.getElem?_cons_succ, q1, q2, mt]⟩)
    have e : T.lst ((raw.filter fun r => mI kept (nmA ns r.1) && mI kept (nmA ns r.2.1)).map fun r => pT (nmA ns r.1, nmA ns r.2.1)) = plT U := by
      rw [plT, ← hU, List.map_map]
      rfl
    rw [e] at this
    exact this
  have c3 : evE (callI defs k) C_w_priced_0 [some (.ref A.length), some (.t (iT hs)), some dr, some (.ref (A.length + ν.length + 1)), none, y5, x6, x7, some (.t (.int (1 + mx))), some (.t (.int num)), some (.ref (A.length + ν.length + 1 + 1)), some (.ref (A.length + ν.length + 1 + 2)), some (.ref (A.length + ν.length + 1 + 3)), y13, some (.t (iT kept)), none, some (.t (plT U)), none] M = .ok (.t (.lst ((duesL ns (1 + mx) raw).map dT))) M := by
    have := ev_comp (F := callI defs k) (own := [("_law_k", 5), ("_law_j", 6), ("_law_due_here", 7)]) (tg := .tp [.nm 5, .nm 6, .nm 7]) (it := .val (.var 2)) (ifs := (.cons (.cmp .gt (.var 7) (.cst (.int 0))) .nil)) (e := (.tup (.cons (.ix (.var 10) (.var 5)) (.cons (.ix (.var 10) (.var 6)) (.cons (.bin .mul (.var 7) (.var 8)) .nil))))) (env := [some (.ref A.length), some (.t (iT hs)), some dr, some (.ref (A.length + ν.length + 1)), none, y5, x6, x7, some (.t (.int (1 + mx))), some (.t (.int num)), some (.ref (A.length + ν.length + 1 + 1)), some (.ref (A.length + ν.length + 1 + 2)), some (.ref (A.length + ν.length + 1 + 3)), y13, some (.t (iT kept)), none, some (.t (plT U)), none]) (μ := M) (w := watchL dr ((raw.map rT).map D.t)) (fun r : Int × Int × Int => D.t (rT r)) raw (fun r => decide (0 < r.2.2)) (fun r => dT (nmA ns r.1, nmA ns r.2.1, r.2.2 * (1 + mx))) (by
      simp only [evI, evE, bnd_ap, List.getElem?_cons_zero, List.getElem?_cons_succ, lrl, mr]) (by rw [sizeLine_eq]; omega) lr.wat (fun r hm => ⟨[some (.ref A.length), some (.t (iT hs)), some dr, some (.ref (A.length + ν.length + 1)), none, some (.t (.int r.1)), some (.t (.int r.2.1)), some (.t (.int r.2.2)), some (.t (.int (1 + mx))), some (.t (.int num)), some (.ref (A.length + ν.length + 1 + 1)), some (.ref (A.length + ν.length + 1 + 2)), some (.ref (A.length + ν.length + 1 + 3)), y13, some (.t (iT kept)), none, some (.t (plT U)), none], rfl, rfl, fun _ => by
        have q1 := ix_nm gn (ln' r hm).1
        have q2 := ix_nm gn (ln' r hm).2
        have ml : ∀ i : Int, ∀ μ, binD .mul (.t (.int i)) (.t (.int (1 + mx))) μ = .ok (.t (.int (i * (1 + mx)))) μ := fun i μ => by
          simp only [binD]
          rw [bI_mulr i (1 + mx) (by omega) (by omega)]
        have mt : ∀ a b c : Int, ∀ μ, mkTup [.t (.int a), .t (.int b), .t (.int c)] μ = .ok (.t (dT (a, b, c))) μ := fun a b c μ => rfl
        simp only [evE, evEs, bnd_ap, pur_ap, List.getElem?_cons_zero, List.getElem?_cons_succ, q1, q2, ml, mt]⟩)
    have e : T.lst ((raw.filter fun r => decide (0 < r.2.2)).map fun r => dT (nmA ns r.1, nmA ns r.2.1, r.2.2 * (1 + mx))) = .lst ((duesL ns (1 + mx) raw).map dT) := by
      rw [duesL, List.map_map]
      rfl
    rw [e] at this
    exact this
  have mt1 : mkTup [.ref (A.length + ν.length + 1 + 2), .t (plT U)] M = .ok (.tp [.ref (A.length + ν.length + 1 + 2), .t (plT U)]) M := rfl
  have mt2 : mkTup [.tp [.ref (A.length + ν.length + 1 + 2), .t (plT U)], .ref (A.length + ν.length + 1 + 3), .t (.lst ((duesL ns (1 + mx) raw).map dT))] M = .ok (.tp [.tp [.ref (A.length + ν.length + 1 + 2), .t (plT U)], .ref (A.length + ν.length + 1 + 3), .t (.lst ((duesL ns (1 + mx) raw).map dT))]) M := rfl
  have lv : leave .frz (A ++ stC s :: ν) (.tp [.tp [.ref (A.length + ν.length + 1 + 2), .t (plT U)], .ref (A.length + ν.length + 1 + 3), .t (.lst ((duesL ns (1 + mx) raw).map dT))]) M = .ok (.t (.tup [webT P U, plT H, .lst ((duesL ns (1 + mx) raw).map dT)])) (A ++ stC s' :: ν) := by
    have hb : OkBack (A ++ stC s :: ν) M := by rw [← hM]; exact back_st A s s' ν _
    have ht : M.take (A ++ stC s :: ν).length = A ++ stC s' :: ν := by rw [← hM]; exact take_st A s s' ν _
    have hle : (A ++ stC s :: ν).length = A.length + ν.length + 1 := by simp; omega
    have f1 : frzD M (A.length + ν.length + 1) 2 (.ref (A.length + ν.length + 1 + 2)) = some (plT P) := frzD_lst (k := 1) (by omega) gP
    have f2 : frzD M (A.length + ν.length + 1) 3 (.ref (A.length + ν.length + 1 + 3)) = some (plT H) := frzD_lst (k := 2) (by omega) gH
    have f3 : frzD M (A.length + ν.length + 1) 4 (.tp [.tp [.ref (A.length + ν.length + 1 + 2), .t (plT U)], .ref (A.length + ν.length + 1 + 3), .t (.lst ((duesL ns (1 + mx) raw).map dT))]) = some (.tup [webT P U, plT H, .lst ((duesL ns (1 + mx) raw).map dT)]) := by
      have f4 : frzD M (A.length + ν.length + 1) 3 (.tp [.ref (A.length + ν.length + 1 + 2), .t (plT U)]) = some (webT P U) := by
        have fU : frzD M (A.length + ν.length + 1) 2 (.t (plT U)) = some (plT U) := rfl
        show (List.mapM (frzD M (A.length + ν.length + 1) 2) [.ref (A.length + ν.length + 1 + 2), .t (plT U)]).map T.tup = _
        simp only [List.mapM_cons, List.mapM_nil, f1, fU]
        rfl
      have fD : frzD M (A.length + ν.length + 1) 3 (.t (.lst ((duesL ns (1 + mx) raw).map dT))) = some (.lst ((duesL ns (1 + mx) raw).map dT)) := rfl
      show (List.mapM (frzD M (A.length + ν.length + 1) 3) [.tp [.ref (A.length + ν.length + 1 + 2), .t (plT U)], .ref (A.length + ν.length + 1 + 3), .t (.lst ((duesL ns (1 + mx) raw).map dT))]).map T.tup = _
      simp only [List.mapM_cons, List.mapM_nil, f4, f2, fD]
      rfl
    rw [hle] at ht
    unfold leave
    rw [if_pos hb]
    simp only [hle, f3, ht]
  rw [hmm] at lv ⊢
  rw [hM] at e3
  have ng : ∀ {F : Orac} {env : Envv} {μ : Mem}, evE F (.neg (.cst (.int 1))) env μ = .ok (.t (.int (-1))) μ := fun {F env μ} => rfl
  have ng1 := fun env μ => ng (F := callI defs k) (env := env) (μ := μ)
  rw [show A ++ stC s' :: ν = MM A s' ν [] by unfold MM; simp] at lv ⊢
  clear hraw hh hr hev hP hwb hev2 hM gn gP gH lr lrl ln' hU hkept hpw
  generalize webT P U = W at *
  generalize plT U = PU at *
  generalize plT H = PH at *
  generalize iT hs = IH at *
  generalize iT kept = IK at *
  generalize T.lst ((duesL ns (1 + mx) raw).map dT) = DD at *
  generalize MM A s ν [iC (fl hs.length fun _ => 0)] = M0 at *
  generalize MM A s ν [iC (fl hs.length (pay raw))] = M1 at *
  have e2' := e2
  generalize (E.mxd true C_w_priced_4 0) = Q0 at *
  generalize (E.neg (.cst (.int 1))) = NG at *
  simp only [evSs, evS, evE, evEs, evI, bnd_ap, pur_ap, lift_ap, outO_ap, andThen_ap, asgT, toI, List.getElem?_cons_zero, List.getElem?_cons_succ, List.set_cons_zero, List.set_cons_succ, c0, lraw, e1, e2', add_ev, ng1, mk1, mk2, mk3, ln, rg, e3, c1, c2, c3, mt1, mt2, fin, lv]
/-! ### webs laid with their halves -/
/-- a comprehension whose walk and items change cells -/
theorem ev_st1 {α : Type} {F : Orac} {own : List (Str × Nat)} {tg : Tg} {it : MI.It} {ifs : Es} {e : E} {env : Envv} {μ : Mem} {w : Watch} (g : α → D) (xs : List α) (P : List α → List T → Mem → Prop) {μ1 : Mem} (hi : evI F it env μ = .ok (xs.map g, w) μ1) (hl : xs.length ≤ sizeLine) (h0 : P [] [] μ1) (hw : ∀ pre acc μ, P pre acc μ → WOk μ w) (hz : ∀ acc μ, P xs acc μ → acc.length ≤ sizeLine)
    (hs : ∀ pre x post acc μ, xs = pre ++ x :: post → P pre acc μ → ∃ env', asgT tg (g x) (wipeD env (own.map (·.2))) = some env' ∧ ∃ b μ1, evC F ifs env' μ = .ok b μ1 ∧ (b = true → ∃ t μ2, evE F e env' μ1 = .ok (.t t) μ2 ∧ P (pre ++ [x]) (acc ++ [t]) μ2) ∧ (b = false → P (pre ++ [x]) acc μ1)) :
    ∃ acc μ', evE F (.comp true own tg it ifs e) env μ = .ok (.t (.lst acc)) μ' ∧ P xs acc μ' := by
  obtain ⟨acc', μ', e1, ts, rfl, p⟩ := comp_st (tg := tg) (env := wipeD env (own.map (·.2))) (c := fun env => evC F ifs env) (el := fun env => evE F e env) (w := w) g xs (fun pre acc μ => ∃ ts : List T, acc = ts.map D.t ∧ P pre ts μ) (acc0 := []) (μ0 := μ1) ⟨[], rfl, h0⟩ (fun pre acc μ ⟨ts, _, p⟩ => hw pre ts μ p) (fun pre x post acc μ hx ⟨ts, ea, p⟩ => by
    obtain ⟨env', e1, b, μ1, e2, h1, h2⟩ := hs pre x post ts μ hx p
    refine ⟨env', e1, b, μ1, e2, fun hb => ?_, fun hb => ⟨ts, ea, h2 hb⟩⟩
    obtain ⟨t, μ2, e3, p2⟩ := h1 hb
    exact ⟨.t t, μ2, e3, ts ++ [t], by rw [ea]; simp, p2⟩)
  refine ⟨ts, μ', ?_, p⟩
  simp only [evE, bnd_ap, hi, List.length_map, if_pos hl]
  rw [e1]
  simp only []
  rw [mkL_t _ _ (hz _ _ p)]
abbrev rawC (raw : D3) : Cell := .lst ((raw.map rT).map D.t)
section
variable {k : Nat} (A : Mem) (ν : Mem) {hs : List Int}
abbrev ldE (A ν : Mem) (hs : List Int) (great dense i : Int) (x7 x8 : Option D) : Envv := [some (.ref A.length), some (.t (.int 9)), some (.t (.int great)), some (.t (.int dense)), some (.t (iT hs)), some (.t (.int i)), some (.ref (A.length + ν.length + 1)), x7, x8]
theorem ld_step (hk : 1 ≤ k) (s : St) {raw : D3} (hlr : raw.length < 9000) (great dense i j : Int) (hg : 0 < great ∧ great < 1073741824) (hi : InR hs.length i) (hj : InR hs.length j) (x8 : Option D) :
    ∃ raw' s' y8, (raw' = raw ∨ ∃ w, raw' = raw ++ [(i, j, w)] ∧ 0 ≤ w ∧ 2 ≤ nmA hs i + nmA hs j ∧ (0 < w → nmA hs i + nmA hs j = 2)) ∧
      evSs (callI defs k) L_w_laid_0 (ldE A ν hs great dense i (some (.t (.int j))) x8) (MM A s ν [rawC raw]) = some (.nx (ldE A ν hs great dense i (some (.t (.int j))) y8), MM A s' ν [rawC raw']) := by
  have gt : ∀ i j : Int, ∀ μ, cmpD .gt (.t (.int i)) (.t (.int j)) μ = .ok (.t (.bl (decide (j < i)))) μ := fun i j μ => rfl
  have lt : ∀ i j : Int, ∀ μ, cmpD .lt (.t (.int i)) (.t (.int j)) μ = .ok (.t (.bl (decide (i < j)))) μ := fun i j μ => rfl
  have eq : ∀ i j : Int, ∀ μ, cmpD .eq (.t (.int i)) (.t (.int j)) μ = .ok (.t (.bl (i == j))) μ := fun i j μ => rfl
  have ai := fun μ => ix_hs hi μ
  have aj := fun μ => ix_hs hj μ
  have mk : ∀ w : Int, ∀ μ, mkL true [.t (.int i), .t (.int j), .t (.int w)] μ = .ok (.t (rT (i, j, w))) μ := fun w μ => rfl
  have g : ∀ s, (MM A s ν [rawC raw])[A.length + ν.length + 1]? = some (rawC raw) := fun s => MM_get A s ν _ 0
  have ty := fun s => ty_cell (g s)
  have ap : ∀ (s : St) (w : Int), mthD .append (.ref (A.length + ν.length + 1)) [.t (rT (i, j, w))] (MM A s ν [rawC raw]) = .ok (.t .non) (MM A s ν [rawC (raw ++ [(i, j, w)])]) := fun s w => by
    have := app_cell (d := .t (rT (i, j, w))) (g s) (by simp; omega)
    rw [show A.length + ν.length + 1 = A.length + ν.length + 1 + 0 from rfl, MM_set] at this
    rw [show A.length + ν.length + 1 = A.length + ν.length + 1 + 0 from rfl, this]
    simp [rawC]
  rw [L_w_laid_0]
  unfold ldE
  clear g
  cases h1 : decide (1 < nmA hs i + nmA hs j) with
  | false =>
    refine ⟨raw, s, x8, .inl rfl, ?_⟩
    simp only [evSs, evS, evE, evEs, bnd_ap, pur_ap, lift_ap, outO_ap, andThen_ap, ite_ap, ite_apO, toB_ap, List.getElem?_cons_zero, List.getElem?_cons_succ, ai, aj, add_ev, gt, h1, Bool.false_eq_true, if_false]
  | true =>
    have hs2 : 2 ≤ nmA hs i + nmA hs j := by have := of_decide_eq_true h1; omega
    obtain ⟨c, s1, c0, c1, e1⟩ := MM_take (k := k) hk A s ν [rawC raw] 5 (by decide) (by decide)
    cases h2 : decide (c < dense) with
    | false =>
      refine ⟨raw, s1, x8, .inl rfl, ?_⟩
      simp only [evSs, evS, evE, evEs, bnd_ap, pur_ap, lift_ap, outO_ap, andThen_ap, ite_ap, ite_apO, toB_ap, List.getElem?_cons_zero, List.getElem?_cons_succ, ai, aj, add_ev, gt, h1, e1, lt, h2, if_true, Bool.false_eq_true, if_false]
    | true =>
      cases h3 : (nmA hs i + nmA hs j == 2) with
      | false =>
        refine ⟨raw ++ [(i, j, 0)], s1, some (.t (.int 0)), .inr ⟨0, rfl, Int.le_refl _, hs2, fun h => absurd h (by decide)⟩, ?_⟩
        simp only [evSs, evS, evE, evEs, bnd_ap, pur_ap, lift_ap, outO_ap, andThen_ap, ite_ap, ite_apO, toB_ap, asgT, List.getElem?_cons_zero, List.getElem?_cons_succ, List.set_cons_zero, List.set_cons_succ, ai, aj, add_ev, gt, h1, e1, lt, h2, eq, h3, mk, tyChk, mthT, ty, ap, if_true, Bool.false_eq_true, if_false]
      | true =>
        have hs3 : nmA hs i + nmA hs j = 2 := by simpa using h3
        obtain ⟨c2, s2, c20, c21, e2⟩ := MM_take (k := k) hk A s1 ν [rawC raw] 4 (by decide) (by decide)
        cases h4 : decide (0 < c2) with
        | false =>
          refine ⟨raw ++ [(i, j, 0)], s2, some (.t (.int 0)), .inr ⟨0, rfl, Int.le_refl _, hs2, fun h => absurd h (by decide)⟩, ?_⟩
          simp only [evSs, evS, evE, evEs, bnd_ap, pur_ap, lift_ap, outO_ap, andThen_ap, ite_ap, ite_apO, toB_ap, asgT, List.getElem?_cons_zero, List.getElem?_cons_succ, List.set_cons_zero, List.set_cons_succ, ai, aj, add_ev, gt, h1, e1, lt, h2, eq, h3, e2, h4, mk, tyChk, mthT, ty, ap, if_true, Bool.false_eq_true, if_false]
        | true =>
          obtain ⟨d, s3, d0, d1, e3⟩ := MM_take (k := k) hk A s2 ν [rawC raw] great hg.1 hg.2
          refine ⟨raw ++ [(i, j, 1 + d)], s3, some (.t (.int (1 + d))), .inr ⟨1 + d, rfl, by omega, hs2, fun _ => hs3⟩, ?_⟩
          simp only [evSs, evS, evE, evEs, bnd_ap, pur_ap, lift_ap, outO_ap, andThen_ap, ite_ap, ite_apO, toB_ap, asgT, List.getElem?_cons_zero, List.getElem?_cons_succ, List.set_cons_zero, List.set_cons_succ, ai, aj, add_ev, gt, h1, e1, lt, h2, eq, h3, e2, h4, e3, mk, tyChk, mthT, ty, ap, if_true, Bool.false_eq_true, if_false]
theorem RawOk.nil : RawOk hs [] := ⟨fun _ h => (by cases h), fun _ h => (by cases h), fun _ h => (by cases h), fun _ h => (by cases h), fun _ h => (by cases h), fun _ h => (by cases h)⟩
theorem RawOk.put {raw : D3} (h : RawOk hs raw) {i j w : Int} (hi : InR hs.length i) (hj : InR hs.length j) (hne : i ≠ j) (h2 : 2 ≤ nmA hs i + nmA hs j) (hw : 0 ≤ w) (hd : 0 < w → nmA hs i + nmA hs j = 2) : RawOk hs (raw ++ [(i, j, w)]) := by
  have m : ∀ r ∈ raw ++ [(i, j, w)], r ∈ raw ∨ r = (i, j, w) := fun r hr => by
    rcases List.mem_append.mp hr with hr | hr
    · exact .inl hr
    · exact .inr (List.mem_singleton.mp hr)
  refine ⟨fun r hr => ?_, fun r hr => ?_, fun r hr => ?_, fun r hr => ?_, fun r hr => ?_, fun r hr => ?_⟩ <;> rcases m r hr with hr | rfl
  · exact h.a r hr
  · exact hi
  · exact h.b r hr
  · exact hj
  · exact h.ne r hr
  · exact hne
  · exact h.two r hr
  · exact h2
  · exact h.w r hr
  · exact hw
  · exact h.due r hr
  · exact hd
theorem c_w_laid (hk : 3 ≤ k) (s : St) : ∃ (h : Int → Int) (P U H : PL) (Dd : D3) (s' : St), WB h P U Dd ∧ callI defs k F_w_laid [.ref A.length, .t (.int 9)] (A ++ stC s :: ν) = .ok (.t (.tup [webT P U, plT H, .lst (Dd.map dT)])) (A ++ stC s' :: ν) := by
  obtain ⟨k, rfl, hk⟩ := callI_at (defs := defs) (f := 0) hk
  rw [u_w_laid, b_w_laid]
  have hmm : ∀ s, A ++ stC s :: ν = MM A s ν [] := fun s => by unfold MM; simp
  obtain ⟨g, s1, g0, g1, e1⟩ := MM_take (k := k) (by omega) A s ν [] 3 (by decide) (by decide)
  obtain ⟨great, e2, hgr⟩ := pick3 (a := 2) (b := 9) (c := 1000000000) g0 g1 (MM A s1 ν [])
  obtain ⟨d, s2, d0, d1, e3⟩ := MM_take (k := k) (by omega) A s1 ν [] 4 (by decide) (by decide)
  obtain ⟨n, s3, n0, n1, e4⟩ := MM_take (k := k) (by omega) A s2 ν [] 10 (by decide) (by decide)
  have ad10 : (9 : Int) + 1 = 10 := rfl
  have rgn : ∀ μ, rngM0 n μ = .ok (rngD 0 n.toNat, []) μ := fun μ => rngM0_ok n μ (by omega) (by omega)
  obtain ⟨acc, μ', e5, hs, s4, hh, hln, rfl, rfl⟩ := ev_st1 (F := callI defs k) (own := [("_law_k", 5)]) (tg := .nm 5) (it := .rng1 (.call F_w_take (.cons (.var 0) (.cons (.bin .add (.var 1) (.cst (.int 1))) .nil)))) (ifs := .nil) (e := .call F_w_take (.cons (.var 0) (.cons (.cst (.int 3)) .nil))) (env := [some (.ref A.length), some (.t (.int 9)), some (.t (.int great)), some (.t (.int (1 + d))), none, none, none, none, none]) (μ := MM A s2 ν []) (μ1 := MM A s3 ν []) (w := []) (fun (i : Nat) => D.t (.int (0 + (i : Int)))) (List.range n.toNat)
    (fun pre acc μ => ∃ (hs : List Int) (s : St), HsOk hs ∧ hs.length = pre.length ∧ acc = hs.map T.int ∧ μ = MM A s ν []) (by
      rw [← rngD_map]
      simp only [evI, evE, evEs, bnd_ap, pur_ap, List.getElem?_cons_zero, List.getElem?_cons_succ, add_ev, ad10, e4, toI, rgn]) (by rw [sizeLine_eq, List.length_range]; omega) ⟨[], s3, fun x hx => (by cases hx), rfl, rfl, rfl⟩ (fun _ _ _ _ => wok_nil _) (fun acc μ ⟨hs, s, h, hl, e, _⟩ => by rw [e, sizeLine_eq, List.length_map, hl, List.length_range]; omega) (fun pre x post acc μ hx hp => by
      obtain ⟨hs, s5, hh, hl, rfl, rfl⟩ := hp
      obtain ⟨c, s6, c0, c1, e6⟩ := MM_take (k := k) (by omega) A s5 ν [] 3 (by decide) (by decide)
      refine ⟨_, rfl, true, MM A s5 ν [], rfl, fun _ => ⟨.int c, MM A s6 ν [], ?_, hs ++ [c], s6, fun y hy => ?_, by simp [hl], by simp, rfl⟩, fun h => (by cases h)⟩
      · simp only [wipeD, List.map_cons, List.map_nil, List.set_cons_zero, List.set_cons_succ, evE, evEs, bnd_ap, pur_ap, List.getElem?_cons_zero, e6]
      · rcases List.mem_append.mp hy with hy | hy
        · exact hh y hy
        · rw [List.mem_singleton] at hy
          omega)
  rw [List.length_range] at hln
  have hl9 : hs.length ≤ 9 := by omega
  have hg2 : 0 < great ∧ great < 1073741824 := by omega
  obtain ⟨env', μ', e6, raw, s5, y5, y7, y8, hraw, hlr, rfl, rfl⟩ := for_run (tg := .nm 5) (b := fun env => evSs (callI defs k) L_w_laid_1 env) (w := []) (fun (i : Nat) => D.t (.int (0 + (i : Int)))) (List.range hs.length)
    (fun pre env μ' => ∃ (raw : D3) (s : St) (y5 y7 y8 : Option D), RawOk hs raw ∧ raw.length ≤ 9 * pre.length ∧ env = [some (.ref A.length), some (.t (.int 9)), some (.t (.int great)), some (.t (.int (1 + d))), some (.t (iT hs)), y5, some (.ref (A.length + ν.length + 1)), y7, y8] ∧ μ' = MM A s ν [rawC raw])
    (env := [some (.ref A.length), some (.t (.int 9)), some (.t (.int great)), some (.t (.int (1 + d))), some (.t (iT hs)), none, some (.ref (A.length + ν.length + 1)), none, none]) (μ := MM A s4 ν [rawC []])
    ⟨[], s4, none, none, none, .nil, by simp, rfl, rfl⟩ (fun _ _ _ _ => wok_nil _) (fun pre i post env μ' hx hp => by
      obtain ⟨raw, s5, y5, y7, y8, hraw, hlr, rfl, rfl⟩ := hp
      obtain ⟨hi, hi2⟩ := rng_at hx
      subst hi
      have hiR : InR hs.length (0 + (pre.length : Int)) := ⟨by omega, by omega⟩
      obtain ⟨env', μ', e7, raw', s6, z7, z8, hraw', hlr', rfl, rfl⟩ := for_run (tg := .nm 7) (b := fun env => evSs (callI defs k) L_w_laid_0 env) (w := []) (fun (j : Nat) => D.t (.int ((0 + (pre.length : Int)) + 1 + (j : Int)))) (List.range (hs.length - pre.length - 1))
        (fun pre2 env μ' => ∃ (raw' : D3) (s : St) (z7 z8 : Option D), RawOk hs raw' ∧ raw'.length ≤ 9 * pre.length + pre2.length ∧ env = ldE A ν hs great (1 + d) (0 + (pre.length : Int)) z7 z8 ∧ μ' = MM A s ν [rawC raw'])
        (env := ldE A ν hs great (1 + d) (0 + (pre.length : Int)) y7 y8) (μ := MM A s5 ν [rawC raw])
        ⟨raw, s5, y7, y8, hraw, by simpa using hlr, rfl, rfl⟩ (fun _ _ _ _ => wok_nil _) (fun pre2 j post2 env μ' hx2 hp2 => by
          obtain ⟨raw', s6, z7, z8, hraw', hlr', rfl, rfl⟩ := hp2
          obtain ⟨hj, hj2⟩ := rng_at hx2
          subst hj
          have hjR : InR hs.length (0 + (pre.length : Int) + 1 + (pre2.length : Int)) := ⟨by omega, by omega⟩
          obtain ⟨raw2, s7, w8, hr2, e8⟩ := ld_step (k := k) A ν (by omega) s6 (raw := raw') (by omega) great (1 + d) (0 + (pre.length : Int)) (0 + (pre.length : Int) + 1 + (pre2.length : Int)) hg2 hiR hjR z8
          refine ⟨_, rfl, _, _, e8, raw2, s7, some (.t (.int (0 + (pre.length : Int) + 1 + (pre2.length : Int)))), w8, ?_, ?_, rfl, rfl⟩
          · rcases hr2 with rfl | ⟨w, rfl, w0, w2, wd⟩
            · exact hraw'
            · exact hraw'.put hiR hjR (by omega) w2 w0 wd
          · rcases hr2 with rfl | ⟨w, rfl, _⟩
            · rw [List.length_append]; omega
            · rw [List.length_append, List.length_append, List.length_singleton, List.length_singleton]; omega)
      refine ⟨_, rfl, _, _, ?_, raw', s6, some (.t (.int (0 + (pre.length : Int)))), z7, z8, hraw', (by rw [List.length_range] at hlr'; rw [List.length_append, List.length_singleton]; omega), rfl, rfl⟩
      rw [← rngD_map] at e7
      rw [L_w_laid_1]
      have hm1 : ((hs.length : Int) - (0 + (pre.length : Int) + 1)).toNat = hs.length - pre.length - 1 := by omega
      have ln : ∀ μ, bfnD true .len [.t (iT hs)] μ = .ok (.t (.int (hs.length : Nat))) μ := fun μ => by simp only [bfnD, iT, lO_lst, List.length_map]
      have rg : ∀ μ, rngM (0 + (pre.length : Int) + 1) (hs.length : Int) μ = .ok (rngD (0 + (pre.length : Int) + 1) (hs.length - pre.length - 1), []) μ := fun μ => by
        rw [rngM_ok _ _ _ (by omega) (by omega) (by omega) (by omega), hm1]
      unfold ldE at e7
      clear hx hraw hraw' hlr hlr' hm1
      simp only [evSs, evS, evE, evEs, evI, bnd_ap, pur_ap, lift_ap, outO_ap, andThen_ap, List.getElem?_cons_zero, List.getElem?_cons_succ, List.set_cons_zero, List.set_cons_succ, add_ev, ln, toI, rg, e7])
  rw [List.length_range] at hlr
  have hrw : ∀ s L, LT (MM A s (ν ++ [rawC raw]) L) (.ref (A.length + ν.length + 1)) (raw.map rT) := fun s L => .cel (by
    have : MM A s (ν ++ [rawC raw]) L = MM A s ν (rawC raw :: L) := by unfold MM; simp
    rw [this]
    exact MM_get A s ν _ 0)
  obtain ⟨h, P, U, H, Dd, s6, hwb, e7⟩ := c_w_priced (k := k) (by omega) A s5 (ν ++ [rawC raw]) hrw hh hraw (by omega) (by omega)
  refine ⟨h, P, U, H, Dd, s6, hwb, ?_⟩
  rw [← rngD_map] at e6
  have em : ∀ s, A ++ stC s :: (ν ++ [rawC raw]) = MM A s ν [rawC raw] := fun s => rfl
  rw [em, em] at e7
  have lv := leave_s A s s6 ν [rawC raw] (.tup [webT P U, plT H, .lst (Dd.map dT)])
  rw [em, hmm, hmm] at lv
  rw [hmm, hmm]
  have mk3 : ∀ μ, mkL true [.t (.int 2), .t (.int 9), .t (.int 1000000000)] μ = .ok (.t (.lst [.int 2, .int 9, .int 1000000000])) μ := fun μ => rfl
  have pw : ∀ μ, binD .pow (.t (.int 10)) (.t (.int 9)) μ = .ok (.t (.int 1000000000)) μ := fun μ => by simp only [binD, bI_p9]
  have mk0 : mkL false [] (MM A s4 ν []) = .ok (.ref (A.length + ν.length + 1)) (MM A s4 ν [rawC []]) := MM_mk A s4 ν [] [] (by simp)
  have ln : ∀ μ, bfnD true .len [.t (iT hs)] μ = .ok (.t (.int (hs.length : Nat))) μ := fun μ => by simp only [bfnD, iT, lO_lst, List.length_map]
  have rg : ∀ μ, rngM0 (hs.length : Int) μ = .ok (rngD 0 hs.length, []) μ := fun μ => by
    have := rngM0_ok (hs.length : Int) μ (by omega) (by omega)
    rwa [Int.toNat_natCast] at this
  have e5' : evE (callI defs k) C_w_laid_2 [some (.ref A.length), some (.t (.int 9)), some (.t (.int great)), some (.t (.int (1 + d))), none, none, none, none, none] (MM A s2 ν []) = .ok (.t (iT hs)) (MM A s4 ν []) := e5
  clear hwb hraw hrw hh e5 hmm em
  generalize T.tup [webT P U, plT H, .lst (Dd.map dT)] = RR at *
  generalize iT hs = IH at *
  simp only [evSs, evS, evE, evEs, evI, bnd_ap, pur_ap, lift_ap, outO_ap, andThen_ap, asgT, toI, List.getElem?_cons_zero, List.getElem?_cons_succ, List.set_cons_zero, List.set_cons_succ, pw, mk3, e1, e2, e3, add_ev, e5', mk0, ln, rg, e6, e7, fin, lv]
end
/-! slices of plain lists -/
def cutT (L : List T) (lo hi : Option Int) : List T := (L.drop (sIx L.length 0 lo)).take (sIx L.length L.length hi - sIx L.length 0 lo)
theorem cutT_le (L : List T) (lo hi : Option Int) : (cutT L lo hi).length ≤ L.length := by
  rw [cutT, List.length_take, List.length_drop]
  omega
theorem slc_T (L : List T) (lo hi : Option Int) (μ : Mem) (h : L.length ≤ 16777216) : slcD true (.t (.lst L)) lo hi μ = .ok (.t (.lst (cutT L lo hi))) μ := by
  have e : MI.cutD (L.map D.t) lo hi = (cutT L lo hi).map D.t := by
    unfold MI.cutD cutT
    rw [List.length_map, List.map_take, List.map_drop]
  simp only [slcD, lO_lst, e]
  exact mkL_t _ _ (by rw [sizeLine_eq]; have := cutT_le L lo hi; omega)
theorem cutT_to (L : List T) (n : Nat) : cutT L none (some (n : Int)) = L.take n := by
  have e1 : sIx L.length L.length (some (n : Int)) = min n L.length := HT.sIx_nat _ _ _
  have e2 : sIx L.length 0 none = 0 := rfl
  unfold cutT
  rw [e1, e2, List.drop_zero, Nat.sub_zero]
  by_cases h : n ≤ L.length
  · rw [Nat.min_eq_left h]
  · rw [Nat.min_eq_right (by omega), List.take_of_length_le (Nat.le_refl _), List.take_of_length_le (by omega)]
theorem cutT_at (L : List T) (a b : Nat) (h : a ≤ L.length) : cutT L (some (a : Int)) (some (b : Int)) = (L.drop a).take (min b L.length - a) := by
  have e1 : sIx L.length L.length (some (b : Int)) = min b L.length := HT.sIx_nat _ _ _
  have e2 : sIx L.length 0 (some (a : Int)) = min a L.length := HT.sIx_nat _ _ _
  unfold cutT
  rw [e1, e2, Nat.min_eq_left h]
theorem cutT_sub (L : List T) (lo hi : Option Int) : ∀ t ∈ cutT L lo hi, t ∈ L := fun t ht => List.mem_of_mem_drop (List.mem_of_mem_take ht)
theorem add_T (a b : List T) (μ : Mem) (h : a.length + b.length ≤ 16777216) : binD .add (.t (.lst a)) (.t (.lst b)) μ = .ok (.t (.lst (a ++ b))) μ := by
  have e := toTs_of (a ++ b)
  rw [List.map_append] at e
  simp only [binD, lstN, lstOf, mkL, List.length_append, List.length_map, sizeLine_eq, if_pos h, e]
/-! ### the law -/
theorem same_ne {x y : D} {μ : Mem} {d : PyData} (hs : scalD x y = none) (h1 : deepD μ x = some d) (h2 : deepD μ y = some d) (hl : d.canLay0 = true) (hd : d.depth ≤ 64) : cmpD .ne x y μ = .ok (.t (.bl false)) μ ∧ cmpD .eq x y μ = .ok (.t (.bl true)) μ := by
  have h3 : SeqAt.shaped d = true := by
    rw [SeqAt.shaped, hl, Bool.true_and, decide_eq_true_eq]
    exact hd
  have h4 := SeqAt.eqv_refl d hl
  have h5 : eqP μ x y = some true := by simp only [eqP, h1, h2, h3, Bool.and_self, if_true, h4]
  exact ⟨by simp only [cmpD, hs, h5]; rfl, by simp only [cmpD, hs, h5]⟩
def dueP (I O : List Int) : PyData := .tuple [.list (I.map PyData.int), .list (O.map PyData.int)]
theorem dueP_lay (I O : List Int) : (dueP I O).canLay0 = true := by
  simp only [dueP, PyData.canLay0, PyData.canLayAll0, lay_ints, Bool.and_self]
theorem dueP_dep (I O : List Int) : (dueP I O).depth ≤ 64 := by
  have h1 := dep_ints I
  have h2 := dep_ints O
  simp only [dueP, PyData.depth, PyData.depthAll]
  omega
theorem due_t (I O : List Int) (μ : Mem) : deepD μ (.t (.tup [iT I, iT O])) = some (dueP I O) := by
  simp only [deepD, toP, toPs, iT, toPs_ints, Option.map_some, dueP]
theorem due_c {I O : List Int} {μ : Mem} {a b : Nat} (ha : μ[a]? = some (iC I)) (hb : μ[b]? = some (iC O)) : deepD μ (.tp [.ref a, .ref b]) = some (dueP I O) := by
  have h1 : toTs (I.map fun n => D.t (.int n)) = some (I.map T.int) := by rw [← ints_map]; exact toTs_of _
  have h2 : toTs (O.map fun n => D.t (.int n)) = some (O.map T.int) := by rw [← ints_map]; exact toTs_of _
  simp only [deepD, deepCs, deepC, ha, hb, h1, h2, Option.bind_some, toPs_ints, Option.map_some, dueP]
theorem ch_t (ch : List Ch) (μ : Mem) : deepD μ (.t (.lst (ch.map cT))) = some (.list (ch.map cP)) := by
  simp only [deepD, toP, toPs_cT, Option.map_some]
theorem ch_c {ch : List Ch} {μ : Mem} {a : Nat} (h : μ[a]? = some (chC ch)) : deepD μ (.ref a) = some (.list (ch.map cP)) := by
  simp only [deepD, h, toTs_of, Option.bind_some, toPs_cT, Option.map_some]
theorem chP_ok (ch : List Ch) : (PyData.list (ch.map cP)).canLay0 = true ∧ (PyData.list (ch.map cP)).depth ≤ 64 := by
  have := dep_cPs ch
  exact ⟨by simp only [PyData.canLay0, lay_cPs], by simp only [PyData.depth]; omega⟩
theorem non_mem {μ : Mem} {c : Nat} {O : List Int} (h : μ[c]? = some (iC O)) : cmpD .mem (.t .non) (.ref c) μ = .ok (.t (.bl false)) μ := by
  have h1 : toTs (O.map fun n => D.t (.int n)) = some (O.map T.int) := by rw [← ints_map]; exact toTs_of _
  have h2 : ((O.map T.int).any fun y => eqF y .non) = false := by
    rw [← Bool.not_eq_true, List.any_eq_true]
    rintro ⟨y, hy, e⟩
    obtain ⟨i, _, rfl⟩ := List.mem_map.mp hy
    simp [eqF] at e
  have h3 : memD (.t .non) (.ref c) μ = some false := by
    have hf : flatT .non = true := rfl
    simp only [memD, dctOf, dctTOf, lstOf, h, h1, hf, all_flat, Bool.and_self, if_true, h2]
  simp only [cmpD, h3]
theorem clr_cell {μ : Mem} {c : Nat} {xs : List D} (h : μ[c]? = some (.lst xs)) : mthD .clear (.ref c) [] μ = .ok (.t .non) (μ.set c (.lst [])) := by
  simp only [mthD, h]
theorem ssI_mem {x : Int} {ns : List Int} : x ∈ ssI ns ↔ x ∈ ns := by
  rw [ssI, (sortI_perm _).mem_iff, dedI_mem]
theorem law_body {k : Nat} (hk : 2 ≤ k) {h : Int → Int} {ch : List Ch} (hg : ∀ c ∈ ch, Good h c) (hl : ch.length < 64) (M : Mem) (x0 x1 x2 x3 x4 x5 x6 y8 y9 : Option D) :
    ∃ M' z8 z9, evSs (callI defs k) L_law_1 [x0, x1, x2, x3, x4, x5, x6, some (.t (.lst (ch.map cT))), y8, y9, none] M = some (.nx [x0, x1, x2, x3, x4, x5, x6, some (.t (.lst (ch.map cT))), z8, z9, none], M') := by
  obtain ⟨I, hI⟩ : ∃ I, ssI (insC ch) = I := ⟨_, rfl⟩
  obtain ⟨O, hO⟩ : ∃ O, ssI (outC ch) = O := ⟨_, rfl⟩
  have lI : I.length ≤ 100 := by rw [← hI]; have := ssI_len (insC ch); have := insC_len ch; omega
  have lO : O.length ≤ 100 := by rw [← hO]; have := ssI_len (outC ch); have := outC_len ch; omega
  have hdis : I.filter (fun i => mI O i) = [] := by
    rw [List.filter_eq_nil_iff]
    intro i hi hm
    rw [← hI, ssI_mem] at hi
    have hm := mI_iff.mp hm
    rw [← hO, ssI_mem] at hm
    have h1 := good_ins hg i hi
    have h2 := good_outs hg i hm
    omega
  have hn : M.length + 1 = (M ++ [chC ch]).length := by simp
  have e1 : bfnD false .list [.t (.lst (ch.map cT))] M = .ok (.ref M.length) (M ++ [chC ch]) := by
    simp only [bfnD, lO_lst]
    exact mkL_c _ _ (by rw [sizeLine_eq, List.length_map, List.length_map]; omega)
  have e2 := c_fixed_by_k (k := k) (by omega) (d := .ref M.length) (ch := ch) (μ := M ++ [chC ch]) (fun ν => .cel (by rw [List.append_assoc, getA0]; rfl)) hl
  rw [hI, hO, List.append_assoc, ← hn] at e2
  obtain ⟨M1, hM1⟩ : ∃ M1, M ++ [chC ch] = M1 := ⟨_, rfl⟩
  obtain ⟨M2, hM2⟩ : ∃ M2, M ++ [chC ch, iC I, iC O] = M2 := ⟨_, rfl⟩
  obtain ⟨M3, hM3⟩ : ∃ M3, M ++ [chC ch, .lst ((I.map fun n => D.t (.int n)) ++ [.t .non]), iC O] = M3 := ⟨_, rfl⟩
  obtain ⟨M4, hM4⟩ : ∃ M4, M ++ [.lst [], .lst ((I.map fun n => D.t (.int n)) ++ [.t .non]), iC O] = M4 := ⟨_, rfl⟩
  obtain ⟨M5, hM5⟩ : ∃ M5, M ++ [.lst [], .lst ((I.map fun n => D.t (.int n)) ++ [.t .non]), .lst []] = M5 := ⟨_, rfl⟩
  have e2 : callI defs k F_fixed_by_k [.ref M.length] M1 = .ok (.tp [.ref (M.length + 1), .ref (M.length + 2)]) M2 := by rw [← hM1, e2, ← hM2]; rfl
  have g0 : M2[M.length]? = some (chC ch) := by rw [← hM2, getA0]; rfl
  have g1 : M2[M.length + 1]? = some (iC I) := by rw [← hM2, getA]; rfl
  have g2 : M2[M.length + 2]? = some (iC O) := by rw [← hM2, getA]; rfl
  have g32 : M3[M.length + 2]? = some (iC O) := by rw [← hM3, getA]; rfl
  have g30 : M3[M.length]? = some (chC ch) := by rw [← hM3, getA0]; rfl
  have g42 : M4[M.length + 2]? = some (iC O) := by rw [← hM4, getA]; rfl
  have ne1 := (same_ne (x := .ref M.length) (y := .t (.lst (ch.map cT))) (μ := M2) rfl (ch_c g0) (ch_t ch M2) (chP_ok ch).1 (chP_ok ch).2).1
  have ne2 := (same_ne (x := .tp [.ref (M.length + 1), .ref (M.length + 2)]) (y := .t (.tup [iT I, iT O])) (μ := M2) rfl (due_c g1 g2) (due_t I O M2) (dueP_lay I O) (dueP_dep I O)).1
  have ne3 := (same_ne (x := .t (.tup [iT I, iT O])) (y := .t (.tup [iT I, iT O])) (μ := M5) rfl (due_t I O M5) (due_t I O M5) (dueP_lay I O) (dueP_dep I O)).1
  have du : ∀ μ, callI defs k F_w_due [.t (.lst (ch.map cT))] μ = .ok (.t (.tup [iT I, iT O])) μ := fun μ => by
    have := c_w_due (k := k) (by omega) (ch := ch) μ (by omega)
    rwa [hI, hO] at this
  have fx : callI defs k F_fixed_by [.t (.lst (ch.map cT))] M5 = .ok (.t (.tup [iT I, iT O])) M5 := by
    have := c_fixed_by (k := k) (by omega) (d := .t (.lst (ch.map cT))) (ch := ch) (μ := M5) (.frz _ _) hl
    rwa [hI, hO] at this
  have j0 : ∀ μ, ixD (.tp [.ref (M.length + 1), .ref (M.length + 2)]) (.t (.int 0)) μ = .ok (.ref (M.length + 1)) μ := fun μ => rfl
  have j1 : ∀ μ, ixD (.tp [.ref (M.length + 1), .ref (M.length + 2)]) (.t (.int 1)) μ = .ok (.ref (M.length + 2)) μ := fun μ => rfl
  have ity : ∀ μ, isiD [.tup] (.tp [.ref (M.length + 1), .ref (M.length + 2)]) μ = .ok (.t (.bl true)) μ := fun μ => rfl
  have ln : ∀ μ, bfnD true .len [.tp [.ref (M.length + 1), .ref (M.length + 2)]] μ = .ok (.t (.int 2)) μ := fun μ => rfl
  have n2 : ∀ μ, cmpD .ne (.t (.int 2)) (.t (.int 2)) μ = .ok (.t (.bl false)) μ := fun μ => rfl
  have c0 : evE (callI defs k) C_law_0 [x0, x1, x2, x3, x4, x5, x6, some (.t (.lst (ch.map cT))), some (.ref M.length), some (.tp [.ref (M.length + 1), .ref (M.length + 2)]), none] M2 = .ok (.t (iT [])) M2 := by
    have lI2 : lstOf M2 (.ref (M.length + 1)) = some (I.map fun n => D.t (.int n)) := by simp only [lO_ref, g1]
    have := ev_comp (F := callI defs k) (own := [("_law_place", 10)]) (tg := .nm 10) (it := .val (.ix (.var 9) (.cst (.int 0)))) (ifs := .cons (.cmp .mem (.var 10) (.ix (.var 9) (.cst (.int 1)))) .nil) (e := .var 10) (env := [x0, x1, x2, x3, x4, x5, x6, some (.t (.lst (ch.map cT))), some (.ref M.length), some (.tp [.ref (M.length + 1), .ref (M.length + 2)]), none]) (μ := M2) (w := [(M.length + 1, I.map fun n => D.t (.int n))]) (fun n : Int => D.t (.int n)) I (fun i => mI O i) T.int (by
      simp only [evI, evE, bnd_ap, pur_ap, List.getElem?_cons_zero, List.getElem?_cons_succ, j0, lI2, wL_ref]) (by rw [sizeLine_eq]; omega) (fun p hp => by
        rw [List.mem_singleton] at hp
        rw [hp]
        exact g1) (fun i _ => ⟨[x0, x1, x2, x3, x4, x5, x6, some (.t (.lst (ch.map cT))), some (.ref M.length), some (.tp [.ref (M.length + 1), .ref (M.length + 2)]), some (.t (.int i))], rfl, by
        have hm := (LD.cel g2).mem i
        simp only [evC, evE, bnd_ap, pur_ap, List.getElem?_cons_zero, List.getElem?_cons_succ, j1, cmpD, hm, toB_ap], fun _ => rfl⟩)
    rw [hdis] at this
    exact this
  have nn := ints_nenil [] M2
  have z : ∀ μ, mkL true [] μ = .ok (.t (.lst [])) μ := fun μ => mkL_t [] μ (Nat.zero_le _)
  have ty1 := ty_cell g1
  have a1 : mthD .append (.ref (M.length + 1)) [.t .non] M2 = .ok (.t .non) M3 := by
    rw [app_cell g1 (by simp; omega), ← hM2, ← hM3, setA]
    rfl
  have nm := non_mem g32
  have ty3 := ty_cell g30
  have a2 : mthD .clear (.ref M.length) [] M3 = .ok (.t .non) M4 := by
    rw [clr_cell g30, ← hM3, ← hM4, setA0]
    rfl
  have ty4 := ty_cell g42
  have a3 : mthD .clear (.ref (M.length + 2)) [] M4 = .ok (.t .non) M5 := by
    rw [clr_cell g42, ← hM4, ← hM5, setA]
    rfl
  rw [hM1] at e1
  refine ⟨M5, some (.ref M.length), some (.tp [.ref (M.length + 1), .ref (M.length + 2)]), ?_⟩
  rw [L_law_1]
  clear hg hM1 hM2 hM3 hM4 hM5 g0 g1 g2 g32 g30 g42 hdis hI hO hn
  generalize D.tp [.ref (M.length + 1), .ref (M.length + 2)] = TT at *
  generalize T.tup [iT I, iT O] = DU at *
  generalize ch.map cT = CT at *
  generalize hz : iT [] = Z at *
  simp only [evSs, evS, evE, evEs, bnd_ap, pur_ap, lift_ap, outO_ap, andThen_ap, ite_ap, ite_apO, toB_ap, asgT, List.getElem?_cons_zero, List.getElem?_cons_succ, List.set_cons_zero, List.set_cons_succ, e1, e2, ity, ln, n2, ne1, du, ne2, c0, z, nn, j0, j1, tyChk, mthT, ty1, a1, nm, ty3, a2, ty4, a3, fx, ne3, List.isEmpty_nil, Bool.not_true, Bool.false_eq_true, if_true, if_false]
theorem law_pure : ∀ ns : List Int, ns.length ≤ 63 → ∃ μ, callI defs fuel F_law [.t (.scr ns)] [] = .ok (.t (.bl true)) μ := fun ns hn => by
  refine ⟨[], ?_⟩
  rw [show fuel = 39 + 1 from rfl, u_law, b_law]
  obtain ⟨N, hN, hN1⟩ : ∃ N : Int, (if (if (20 : Int) < (ns.length : Int) then 20 else (ns.length : Int)) > 1 then (if (20 : Int) < (ns.length : Int) then 20 else (ns.length : Int)) else 1) = N ∧ 0 ≤ N ∧ N ≤ 20 := ⟨_, rfl, by split <;> split <;> omega⟩
  obtain ⟨env', μ', e1, y1, y2, y3, y4, y5, y6, y7, y8, y9, rfl⟩ := for_run (tg := .nm 1) (b := fun env => evSs (callI defs 39) L_law_2 env) (w := []) (fun (i : Nat) => D.t (.int (0 + (i : Int)))) (List.range N.toNat)
    (fun pre env μ' => ∃ y1 y2 y3 y4 y5 y6 y7 y8 y9 : Option D, env = [some (.t (.scr ns)), y1, y2, y3, y4, y5, y6, y7, y8, y9, none])
    (env := [some (.t (.scr ns)), none, none, none, none, none, none, none, none, none, none]) (μ := [])
    ⟨none, none, none, none, none, none, none, none, none, rfl⟩ (fun _ _ _ _ => wok_nil _) (fun pre i post env μ hx hp => by
      obtain ⟨y1, y2, y3, y4, y5, y6, y7, y8, y9, rfl⟩ := hp
      obtain ⟨s, e1⟩ := c_w_begun_c (k := 39) (by decide) ns hn (0 + (i : Int)) (by omega) μ
      obtain ⟨h, P, U, H, Dd, s1, hw, e2⟩ := c_w_laid (k := 39) μ [] (by decide) s
      obtain ⟨ch, s2, hg, hl, e3⟩ := c_w_chain (k := 39) (by decide) μ s1 [] hw
      obtain ⟨t, s3, t0, t1, e4⟩ := c_w_take (k := 39) (by decide) μ s2 9 [] (by decide) (by decide)
      have hg2 : ∀ c ∈ ch ++ ch.take t.toNat, Good h c := fun c hc => by
        rcases List.mem_append.mp hc with hc | hc
        · exact hg c hc
        · exact hg c (List.mem_of_mem_take hc)
      have hl2 : (ch ++ ch.take t.toNat).length < 64 := by rw [List.length_append, List.length_take]; omega
      have sl : ∀ μ, slcD true (.t (.lst (ch.map cT))) none (some t) μ = .ok (.t (.lst ((ch.take t.toNat).map cT))) μ := fun μ => by
        have h2 : t = ((t.toNat : Nat) : Int) := (Int.toNat_of_nonneg t0).symm
        have h3 := slc_T (ch.map cT) none (some ((t.toNat : Nat) : Int)) μ (by simp; omega)
        rw [cutT_to, ← List.map_take, ← h2] at h3
        exact h3
      have ad : ∀ μ, binD .add (.t (.lst (ch.map cT))) (.t (.lst ((ch.take t.toNat).map cT))) μ = .ok (.t (.lst ((ch ++ ch.take t.toNat).map cT))) μ := fun μ => by
        rw [add_T _ _ _ (by simp; omega), ← List.map_append]
      have ml : ∀ μ, mkL true [.t (.lst (ch.map cT)), .t (.lst ((ch ++ ch.take t.toNat).map cT))] μ = .ok (.t (.lst [.lst (ch.map cT), .lst ((ch ++ ch.take t.toNat).map cT)])) μ := fun μ => rfl
      obtain ⟨env', μ', e5, z7, z8, z9, rfl⟩ := for_run (tg := .nm 7) (b := fun env => evSs (callI defs 39) L_law_1 env) (w := []) (fun c : List Ch => D.t (.lst (c.map cT))) [ch, ch ++ ch.take t.toNat]
        (fun pre env μ' => ∃ z7 z8 z9 : Option D, env = [some (.t (.scr ns)), some (.t (.int (0 + (i : Int)))), some (.ref μ.length), some (.t (webT P U)), some (.t (plT H)), some (.t (.lst (Dd.map dT))), some (.t (.lst (ch.map cT))), z7, z8, z9, none])
        (env := [some (.t (.scr ns)), some (.t (.int (0 + (i : Int)))), some (.ref μ.length), some (.t (webT P U)), some (.t (plT H)), some (.t (.lst (Dd.map dT))), some (.t (.lst (ch.map cT))), y7, y8, y9, none]) (μ := μ ++ stC s3 :: [])
        ⟨y7, y8, y9, rfl⟩ (fun _ _ _ _ => wok_nil _) (fun pre2 c post2 env M hx2 hp2 => by
          obtain ⟨z7, z8, z9, rfl⟩ := hp2
          have hc : c = ch ∨ c = ch ++ ch.take t.toNat := by
            have : c ∈ [ch, ch ++ ch.take t.toNat] := by rw [hx2]; simp
            simpa using this
          have hgc : ∀ x ∈ c, Good h x := by
            rcases hc with rfl | rfl
            · exact hg
            · exact hg2
          have hlc : c.length < 64 := by
            rcases hc with rfl | rfl
            · omega
            · exact hl2
          obtain ⟨M', w8, w9, e6⟩ := law_body (k := 39) (by decide) hgc hlc M (some (.t (.scr ns))) (some (.t (.int (0 + (i : Int))))) (some (.ref μ.length)) (some (.t (webT P U))) (some (.t (plT H))) (some (.t (.lst (Dd.map dT)))) (some (.t (.lst (ch.map cT)))) z8 z9
          exact ⟨_, rfl, _, M', e6, some (.t (.lst (c.map cT))), w8, w9, rfl⟩)
      refine ⟨_, rfl, _, μ', ?_, some (.t (.int (0 + (i : Int)))), some (.ref μ.length), some (.t (webT P U)), some (.t (plT H)), some (.t (.lst (Dd.map dT))), some (.t (.lst (ch.map cT))), z7, z8, z9, rfl⟩
      rw [L_law_2]
      have tp : tupOf (.t (.tup [webT P U, plT H, .lst (Dd.map dT)])) = some [.t (webT P U), .t (plT H), .t (.lst (Dd.map dT))] := rfl
      simp only [List.map_cons, List.map_nil] at e5
      clear hx hw hg hg2 hl2
      generalize webT P U = W at *
      generalize plT H = PH at *
      generalize Dd.map dT = DD at *
      generalize (ch ++ ch.take t.toNat).map cT = C2 at *
      generalize (ch.take t.toNat).map cT = C3 at *
      generalize ch.map cT = C1 at *
      simp only [evSs, evS, evE, evEs, evEo, evI, bnd_ap, pur_ap, lift_ap, outO_ap, andThen_ap, asgT, asgTs, tp, toI, List.getElem?_cons_zero, List.getElem?_cons_succ, List.set_cons_zero, List.set_cons_succ, e1, e2, e3, e4, sl, ad, ml, lO_lst, wL_t, List.map_cons, List.map_nil, e5])
  rw [← rngD_map] at e1
  have ln : bfnD true .len [.t (.scr ns)] [] = .ok (.t (.int (ns.length : Nat))) [] := by
    simp only [bfnD, lO_scr, List.length_map]
  have mn : ∀ i : Int, ∀ μ, bfnD true .min2 [.t (.int i), .t (.int 20)] μ = .ok (.t (.int (if (20 : Int) < i then 20 else i))) μ := fun i μ => rfl
  have mx : ∀ i : Int, ∀ μ, bfnD true .max2 [.t (.int 1), .t (.int i)] μ = .ok (.t (.int (if i > 1 then i else 1))) μ := fun i μ => rfl
  have rg : ∀ μ, rngM0 N μ = .ok (rngD 0 N.toNat, []) μ := fun μ => rngM0_ok N μ (by omega) (by omega)
  have z : ∀ μ, mkL true [] μ = .ok (.t (.lst [])) μ := fun μ => mkL_t [] μ (Nat.zero_le _)
  have fx : callI defs 39 F_fixed_by [.t (.lst [])] μ' = .ok (.t (.tup [iT [], iT []])) μ' := c_fixed_by (k := 39) (by decide) (d := .t (.lst [])) (ch := []) (μ := μ') (.frz _ _) (by decide)
  have mt : ∀ μ, mkTup [.t (.lst []), .t (.lst [])] μ = .ok (.t (.tup [iT [], iT []])) μ := fun μ => rfl
  have ee := (same_ne (x := .t (.tup [iT [], iT []])) (y := .t (.tup [iT [], iT []])) (μ := μ') rfl (due_t [] [] μ') (due_t [] [] μ') (dueP_lay [] []) (dueP_dep [] [])).2
  have lv := leave_law μ' (.bl true)
  generalize T.tup [iT [], iT []] = Z at *
  simp only [evSs, evS, evE, evEs, evI, bnd_ap, pur_ap, lift_ap, outO_ap, andThen_ap, toI, List.getElem?_cons_zero, List.getElem?_cons_succ, ln, mn, mx, hN, rg, e1, z, fx, mt, ee, fin, lv]
/-! the end -/
theorem bnd0 : ∀ (kV doc pm : Value) (an : Option Addr) (cdv ct : Value) (us : List Value), us.length = e0.ps.length → bindArgs (PySem.W.fnOf e0.nm e0.nm (defArgs e0.st) (defBody e0.st) (defScope e0.st) .none kV doc pm an cdv ct) ⟨us, []⟩ = pure (e0.ps.zip us) := fun _ _ _ _ _ _ us hl => match us, hl with | [_], _ => rfl
theorem bnd1 : ∀ (kV doc pm : Value) (an : Option Addr) (cdv ct : Value) (us : List Value), us.length = e1.ps.length → bindArgs (PySem.W.fnOf e1.nm e1.nm (defArgs e1.st) (defBody e1.st) (defScope e1.st) .none kV doc pm an cdv ct) ⟨us, []⟩ = pure (e1.ps.zip us) := fun _ _ _ _ _ _ us hl => match us, hl with | [_], _ => rfl
theorem bnd2 : ∀ (kV doc pm : Value) (an : Option Addr) (cdv ct : Value) (us : List Value), us.length = e2.ps.length → bindArgs (PySem.W.fnOf e2.nm e2.nm (defArgs e2.st) (defBody e2.st) (defScope e2.st) .none kV doc pm an cdv ct) ⟨us, []⟩ = pure (e2.ps.zip us) := fun _ _ _ _ _ _ us hl => match us, hl with | [_, _], _ => rfl
theorem bnd3 : ∀ (kV doc pm : Value) (an : Option Addr) (cdv ct : Value) (us : List Value), us.length = e3.ps.length → bindArgs (PySem.W.fnOf e3.nm e3.nm (defArgs e3.st) (defBody e3.st) (defScope e3.st) .none kV doc pm an cdv ct) ⟨us, []⟩ = pure (e3.ps.zip us) := fun _ _ _ _ _ _ us hl => match us, hl with | [_], _ => rfl
theorem bnd4 : ∀ (kV doc pm : Value) (an : Option Addr) (cdv ct : Value) (us : List Value), us.length = e4.ps.length → bindArgs (PySem.W.fnOf e4.nm e4.nm (defArgs e4.st) (defBody e4.st) (defScope e4.st) .none kV doc pm an cdv ct) ⟨us, []⟩ = pure (e4.ps.zip us) := fun _ _ _ _ _ _ us hl => match us, hl with | [_], _ => rfl
theorem bnd5 : ∀ (kV doc pm : Value) (an : Option Addr) (cdv ct : Value) (us : List Value), us.length = e5.ps.length → bindArgs (PySem.W.fnOf e5.nm e5.nm (defArgs e5.st) (defBody e5.st) (defScope e5.st) .none kV doc pm an cdv ct) ⟨us, []⟩ = pure (e5.ps.zip us) := fun _ _ _ _ _ _ us hl => match us, hl with | [_, _, _, _], _ => rfl
theorem bnd6 : ∀ (kV doc pm : Value) (an : Option Addr) (cdv ct : Value) (us : List Value), us.length = e6.ps.length → bindArgs (PySem.W.fnOf e6.nm e6.nm (defArgs e6.st) (defBody e6.st) (defScope e6.st) .none kV doc pm an cdv ct) ⟨us, []⟩ = pure (e6.ps.zip us) := fun _ _ _ _ _ _ us hl => match us, hl with | [_, _, _], _ => rfl
theorem bnd7 : ∀ (kV doc pm : Value) (an : Option Addr) (cdv ct : Value) (us : List Value), us.length = e7.ps.length → bindArgs (PySem.W.fnOf e7.nm e7.nm (defArgs e7.st) (defBody e7.st) (defScope e7.st) .none kV doc pm an cdv ct) ⟨us, []⟩ = pure (e7.ps.zip us) := fun _ _ _ _ _ _ us hl => match us, hl with | [_, _], _ => rfl
theorem bnd8 : ∀ (kV doc pm : Value) (an : Option Addr) (cdv ct : Value) (us : List Value), us.length = e8.ps.length → bindArgs (PySem.W.fnOf e8.nm e8.nm (defArgs e8.st) (defBody e8.st) (defScope e8.st) .none kV doc pm an cdv ct) ⟨us, []⟩ = pure (e8.ps.zip us) := fun _ _ _ _ _ _ us hl => match us, hl with | [_, _, _], _ => rfl
theorem bnd9 : ∀ (kV doc pm : Value) (an : Option Addr) (cdv ct : Value) (us : List Value), us.length = e9.ps.length → bindArgs (PySem.W.fnOf e9.nm e9.nm (defArgs e9.st) (defBody e9.st) (defScope e9.st) .none kV doc pm an cdv ct) ⟨us, []⟩ = pure (e9.ps.zip us) := fun _ _ _ _ _ _ us hl => match us, hl with | [_, _], _ => rfl
theorem fin {w : World} {K : PySem.W.Frag} {h : Heap} {mg : Str → Option Value} {fa : Addr} (X : K.In h) (G : h.Ns mainGlobals mg) (hfa : mg "law" = some (.ref fa))
    {f0 : Addr} {oc0 kV0 dc0 pm0 cd0 ct0 : Value} {od0 an0 : Option Addr} {sl0 : Array (Option Value)}
    (a0 : PySem.W.nsIn K mainGlobals "law" = some (some (.ref f0))) (l0 : K.lookup f0 = some ⟨oc0, od0, .func (PySem.W.fnOf "law" "law" (defArgs (topS 10)) (defBody (topS 10)) (defScope (topS 10)) .none kV0 dc0 pm0 an0 cd0 ct0), sl0⟩) (c0 : PySem.W.codeIn K cd0 "law" = true) (k0 : PySem.W.keepIn K (.ref f0) = true)
    {f1 : Addr} {oc1 kV1 dc1 pm1 cd1 ct1 : Value} {od1 an1 : Option Addr} {sl1 : Array (Option Value)}
    (a1 : PySem.W.nsIn K mainGlobals "fixed_by" = some (some (.ref f1))) (l1 : K.lookup f1 = some ⟨oc1, od1, .func (PySem.W.fnOf "fixed_by" "fixed_by" (defArgs (topS 1)) (defBody (topS 1)) (defScope (topS 1)) .none kV1 dc1 pm1 an1 cd1 ct1), sl1⟩) (c1 : PySem.W.codeIn K cd1 "fixed_by" = true) (k1 : PySem.W.keepIn K (.ref f1) = true)
    {f2 : Addr} {oc2 kV2 dc2 pm2 cd2 ct2 : Value} {od2 an2 : Option Addr} {sl2 : Array (Option Value)}
    (a2 : PySem.W.nsIn K mainGlobals "_law_take" = some (some (.ref f2))) (l2 : K.lookup f2 = some ⟨oc2, od2, .func (PySem.W.fnOf "_law_take" "_law_take" (defArgs (topS 4)) (defBody (topS 4)) (defScope (topS 4)) .none kV2 dc2 pm2 an2 cd2 ct2), sl2⟩) (c2 : PySem.W.codeIn K cd2 "_law_take" = true) (k2 : PySem.W.keepIn K (.ref f2) = true)
    {f3 : Addr} {oc3 kV3 dc3 pm3 cd3 ct3 : Value} {od3 an3 : Option Addr} {sl3 : Array (Option Value)}
    (a3 : PySem.W.nsIn K mainGlobals "_law_due" = some (some (.ref f3))) (l3 : K.lookup f3 = some ⟨oc3, od3, .func (PySem.W.fnOf "_law_due" "_law_due" (defArgs (topS 9)) (defBody (topS 9)) (defScope (topS 9)) .none kV3 dc3 pm3 an3 cd3 ct3), sl3⟩) (c3 : PySem.W.codeIn K cd3 "_law_due" = true) (k3 : PySem.W.keepIn K (.ref f3) = true)
    {f4 : Addr} {oc4 kV4 dc4 pm4 cd4 ct4 : Value} {od4 an4 : Option Addr} {sl4 : Array (Option Value)}
    (a4 : PySem.W.nsIn K mainGlobals "fixed_by" = some (some (.ref f4))) (l4 : K.lookup f4 = some ⟨oc4, od4, .func (PySem.W.fnOf "fixed_by" "fixed_by" (defArgs (topS 1)) (defBody (topS 1)) (defScope (topS 1)) .none kV4 dc4 pm4 an4 cd4 ct4), sl4⟩) (c4 : PySem.W.codeIn K cd4 "fixed_by" = true) (k4 : PySem.W.keepIn K (.ref f4) = true)
    {f5 : Addr} {oc5 kV5 dc5 pm5 cd5 ct5 : Value} {od5 an5 : Option Addr} {sl5 : Array (Option Value)}
    (a5 : PySem.W.nsIn K mainGlobals "_law_chain" = some (some (.ref f5))) (l5 : K.lookup f5 = some ⟨oc5, od5, .func (PySem.W.fnOf "_law_chain" "_law_chain" (defArgs (topS 8)) (defBody (topS 8)) (defScope (topS 8)) .none kV5 dc5 pm5 an5 cd5 ct5), sl5⟩) (c5 : PySem.W.codeIn K cd5 "_law_chain" = true) (k5 : PySem.W.keepIn K (.ref f5) = true)
    {f6 : Addr} {oc6 kV6 dc6 pm6 cd6 ct6 : Value} {od6 an6 : Option Addr} {sl6 : Array (Option Value)}
    (a6 : PySem.W.nsIn K mainGlobals "_law_next" = some (some (.ref f6))) (l6 : K.lookup f6 = some ⟨oc6, od6, .func (PySem.W.fnOf "_law_next" "_law_next" (defArgs (topS 7)) (defBody (topS 7)) (defScope (topS 7)) .none kV6 dc6 pm6 an6 cd6 ct6), sl6⟩) (c6 : PySem.W.codeIn K cd6 "_law_next" = true) (k6 : PySem.W.keepIn K (.ref f6) = true)
    {f7 : Addr} {oc7 kV7 dc7 pm7 cd7 ct7 : Value} {od7 an7 : Option Addr} {sl7 : Array (Option Value)}
    (a7 : PySem.W.nsIn K mainGlobals "_law_laid" = some (some (.ref f7))) (l7 : K.lookup f7 = some ⟨oc7, od7, .func (PySem.W.fnOf "_law_laid" "_law_laid" (defArgs (topS 6)) (defBody (topS 6)) (defScope (topS 6)) .none kV7 dc7 pm7 an7 cd7 ct7), sl7⟩) (c7 : PySem.W.codeIn K cd7 "_law_laid" = true) (k7 : PySem.W.keepIn K (.ref f7) = true)
    {f8 : Addr} {oc8 kV8 dc8 pm8 cd8 ct8 : Value} {od8 an8 : Option Addr} {sl8 : Array (Option Value)}
    (a8 : PySem.W.nsIn K mainGlobals "_law_priced" = some (some (.ref f8))) (l8 : K.lookup f8 = some ⟨oc8, od8, .func (PySem.W.fnOf "_law_priced" "_law_priced" (defArgs (topS 5)) (defBody (topS 5)) (defScope (topS 5)) .none kV8 dc8 pm8 an8 cd8 ct8), sl8⟩) (c8 : PySem.W.codeIn K cd8 "_law_priced" = true) (k8 : PySem.W.keepIn K (.ref f8) = true)
    {f9 : Addr} {oc9 kV9 dc9 pm9 cd9 ct9 : Value} {od9 an9 : Option Addr} {sl9 : Array (Option Value)}
    (a9 : PySem.W.nsIn K mainGlobals "_law_begun" = some (some (.ref f9))) (l9 : K.lookup f9 = some ⟨oc9, od9, .func (PySem.W.fnOf "_law_begun" "_law_begun" (defArgs (topS 3)) (defBody (topS 3)) (defScope (topS 3)) .none kV9 dc9 pm9 an9 cd9 ct9), sl9⟩) (c9 : PySem.W.codeIn K cd9 "_law_begun" = true) (k9 : PySem.W.keepIn K (.ref f9) = true)
    (z0 : PySem.W.nsIn K mainGlobals "int" = some none)
    (z1 : PySem.W.nsIn K mainGlobals "isinstance" = some none)
    (z2 : PySem.W.nsIn K mainGlobals "len" = some none)
    (z3 : PySem.W.nsIn K mainGlobals "list" = some none)
    (z4 : PySem.W.nsIn K mainGlobals "max" = some none)
    (z5 : PySem.W.nsIn K mainGlobals "min" = some none)
    (z6 : PySem.W.nsIn K mainGlobals "range" = some none)
    (z7 : PySem.W.nsIn K mainGlobals "set" = some none)
    (z8 : PySem.W.nsIn K mainGlobals "sorted" = some none)
    (z9 : PySem.W.nsIn K mainGlobals "tuple" = some none)
    : ∃ fd : FuncData, (∀ (s : Shared) (u : Value), BindsTo s fd ⟨[u], []⟩ [("_law_script", u)]) ∧ ∀ base : Heap, K.In base → base.Ns mainGlobals mg → FnOk PySem.Challenge.pw_touchall_k30_what_a_chain_names w K mg base (L2N.CX PySem.Challenge.pw_touchall_k30_what_a_chain_names w) (fuel + 2) fa fd ["_law_script"] (spLaw K) := by
  have at_ : ∀ e ∈ tbl, EntAt K mg e := by
    intro e he
    simp only [tbl, List.mem_cons, List.not_mem_nil, or_false] at he
    rcases he with rfl | rfl | rfl | rfl | rfl | rfl | rfl | rfl | rfl | rfl
    · exact ent_mk (e := e0) X G a0 l0 c0 k0 bnd0
    · exact ent_mk (e := e1) X G a1 l1 c1 k1 bnd1
    · exact ent_mk (e := e2) X G a2 l2 c2 k2 bnd2
    · exact ent_mk (e := e3) X G a3 l3 c3 k3 bnd3
    · exact ent_mk (e := e4) X G a4 l4 c4 k4 bnd4
    · exact ent_mk (e := e5) X G a5 l5 c5 k5 bnd5
    · exact ent_mk (e := e6) X G a6 l6 c6 k6 bnd6
    · exact ent_mk (e := e7) X G a7 l7 c7 k7 bnd7
    · exact ent_mk (e := e8) X G a8 l8 c8 k8 bnd8
    · exact ent_mk (e := e9) X G a9 l9 c9 k9 bnd9
  have hb : ∀ x ∈ blts, mg x = none := by
    intro x hx
    simp only [blts, List.mem_cons, List.not_mem_nil, or_false] at hx
    rcases hx with rfl | rfl | rfl | rfl | rfl | rfl | rfl | rfl | rfl | rfl
    · exact PySem.W.mg_none_of X G z0
    · exact PySem.W.mg_none_of X G z1
    · exact PySem.W.mg_none_of X G z2
    · exact PySem.W.mg_none_of X G z3
    · exact PySem.W.mg_none_of X G z4
    · exact PySem.W.mg_none_of X G z5
    · exact PySem.W.mg_none_of X G z6
    · exact PySem.W.mg_none_of X G z7
    · exact PySem.W.mg_none_of X G z8
    · exact PySem.W.mg_none_of X G z9
  have hg : ∀ x t, (x, t) ∈ glo → ∃ u, mg x = some u ∧ relG t u := by
    intro x t hx
    cases hx
  have hc : ∀ base : Heap, ∀ c ∈ clss, ClsX PySem.Challenge.pw_touchall_k30_what_a_chain_names w K mg base c := by
    intro base c hc
    cases hc
  have hs : ∀ c d b, (c, d, b) ∈ subs → SubX K mg c d b := by
    intro c d b h
    cases h
  have hx : ∀ (base : Heap), ∀ f c b, (f, c, b) ∈ xfs → XfX PySem.Challenge.pw_touchall_k30_what_a_chain_names w K mg base f c b := by
    intro base f c b h
    cases h
  obtain ⟨fd, h1, h2⟩ := law_tab (P := PySem.Challenge.pw_touchall_k30_what_a_chain_names) (w := w) (k := fuel) (f := 0) (e := e0) ok_all at_ hb hg hc hs hx rfl rfl hfa law_pure
  exact ⟨fd, h1, fun base _ _ => h2 base⟩
end My
open PySem PySem.W PyProof.Rows
set_option maxHeartbeats 0 in
theorem PySem.Challenge.cw_touchall_k30_what_a_chain_names_holds : PySem.Challenge.rw_touchall_k30_what_a_chain_names.Holds := by
  w_on; o_law; k_head; (case hw => w_witness2)
  k_fill
  refine L2.walk_of (l := PySem.Challenge.rw_touchall_k30_what_a_chain_names) (n := 63) (k := My.fuel + 2) (x := "_law_script") (CX := fun w => L2N.CX PySem.Challenge.pw_touchall_k30_what_a_chain_names w) (sp := fun w => MI.spLaw _) rfl (by decide) rfl ⟨rfl, by decide, by decide⟩ (fun w h Y => PySem.W.kIn_of Y) ?F (fun _ _ a ns hl _ hS => ⟨a, ns, rfl, hS, hl, fun _ => rfl⟩) (fun _ _ _ _ _ ⟨_, _, _, _, _, _, _, _, _, _, _, _, h⟩ => h)
  case F =>
    intro w mg fa h KX G hmg
    refine' My.fin KX G hmg ?aa0 ?ll0 ?cc0 ?kk0 ?aa1 ?ll1 ?cc1 ?kk1 ?aa2 ?ll2 ?cc2 ?kk2 ?aa3 ?ll3 ?cc3 ?kk3 ?aa4 ?ll4 ?cc4 ?kk4 ?aa5 ?ll5 ?cc5 ?kk5 ?aa6 ?ll6 ?cc6 ?kk6 ?aa7 ?ll7 ?cc7 ?kk7 ?aa8 ?ll8 ?cc8 ?kk8 ?aa9 ?ll9 ?cc9 ?kk9 ?zz0 ?zz1 ?zz2 ?zz3 ?zz4 ?zz5 ?zz6 ?zz7 ?zz8 ?zz9  
    (case aa0 => k_is); (case ll0 => k_is); (case cc0 => k_is); (case kk0 => k_is)
    (case aa1 => k_is); (case ll1 => k_is); (case cc1 => k_is); (case kk1 => k_is)
    (case aa2 => k_is); (case ll2 => k_is); (case cc2 => k_is); (case kk2 => k_is)
    (case aa3 => k_is); (case ll3 => k_is); (case cc3 => k_is); (case kk3 => k_is)
    (case aa4 => k_is); (case ll4 => k_is); (case cc4 => k_is); (case kk4 => k_is)
    (case aa5 => k_is); (case ll5 => k_is); (case cc5 => k_is); (case kk5 => k_is)
    (case aa6 => k_is); (case ll6 => k_is); (case cc6 => k_is); (case kk6 => k_is)
    (case aa7 => k_is); (case ll7 => k_is); (case cc7 => k_is); (case kk7 => k_is)
    (case aa8 => k_is); (case ll8 => k_is); (case cc8 => k_is); (case kk8 => k_is)
    (case aa9 => k_is); (case ll9 => k_is); (case cc9 => k_is); (case kk9 => k_is)
    (case zz0 => k_is); (case zz1 => k_is); (case zz2 => k_is); (case zz3 => k_is); (case zz4 => k_is); (case zz5 => k_is); (case zz6 => k_is); (case zz7 => k_is); (case zz8 => k_is); (case zz9 => k_is)
