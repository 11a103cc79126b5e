import PyProof.Rows.All
import Wide.All
import OpenK.AllK
import Wide.FinOn
import HandS.ForMost
import HandS.Walk
import HandS.IsInst
import HandS.ExcCtx
import HandS.CallSlots
import HandS.ExcInit
import HandS.ExcField
import HandS.TupLe
import HandS.ExcInitHot
import HandS.ExcIs
import HandS.RaiseFrom
import HandS.HotCalls
import KE.KExcIs
import HandS.SortInts
import HandS.SortRule
import HandS.SortKw
import HandS.SetFor
import KE.DataFind
import HandS.Remove
import HandS.More
import HandS.Finally
import HandS.Conv
import PyProof.DictUpdate
import HandS.Zip
import HandS.SuiteRaise
import PySem.Challenge.RW_touchall_k07_webs_beside
set_option Elab.async false
set_option linter.all false
set_option maxRecDepth 100000
/-! MI: a small interpreter over plain data, and that the model runs as it says. -/
namespace MI
open PySem PySem.Spec PyProof.Rows L2

/-! ### data -/
/-- plain data: what is never changed -/
inductive T where
  | non | bl (b : Bool) | int (i : Int) | str (x : Str)
  | lst (xs : List T) | tup (xs : List T) | dct (kvs : List (Key × T)) | dcT (kvs : List (List Key × T))
  | scr (ns : List Int)
/-- plain data, a cell, a tuple in which cells stand -/
inductive D where
  | t (x : T) | ref (c : Nat) | tp (ds : List D)
/-- what may change -/
inductive Cell where
  | dead | lst (ds : List D) | dct (kvs : List (Key × D)) | dcT (kvs : List (List Key × D)) | exn (fts : List (Str × T))
abbrev Mem := List Cell
structure Exn where
  cls : Str
  fs : List (Str × T)
inductive R (α : Type) where
  | ok (a : α) (μ : Mem) | ex (x : Exn) (μ : Mem) | no
abbrev M (α : Type) := Mem → R α
def pur {α : Type} (a : α) : M α := fun μ => .ok a μ
def stuck {α : Type} : M α := fun _ => .no
def bnd {α β : Type} (x : M α) (f : α → M β) : M β := fun μ => match x μ with
  | .ok a μ' => f a μ'
  | .ex e μ' => .ex e μ'
  | .no => .no
def Sat {α : Type} (r : R α) (P : α → Mem → Prop) (E : Exn → Mem → Prop) : Prop := match r with
  | .ok a μ => P a μ
  | .ex x μ => E x μ
  | .no => False
theorem Sat.mono {α : Type} {r : R α} {P P' : α → Mem → Prop} {E E' : Exn → Mem → Prop} (h : Sat r P E) (hp : ∀ a μ, P a μ → P' a μ) (he : ∀ x μ, E x μ → E' x μ) : Sat r P' E' := by
  cases r with
  | ok a μ => exact hp a μ h
  | ex x μ => exact he x μ h
  | no => exact h
theorem Sat.bnd {α β : Type} {x : M α} {f : α → M β} {μ : Mem} {P : β → Mem → Prop} {E : Exn → Mem → Prop} (h : Sat (bnd x f μ) P E) : Sat (x μ) (fun a μ' => Sat (f a μ') P E) E := by
  unfold MI.bnd at h
  cases e : x μ with
  | ok a μ' => rw [e] at h; exact h
  | ex y μ' => rw [e] at h; exact h
  | no => rw [e] at h; exact h
theorem Sat.no {α : Type} {P : α → Mem → Prop} {E : Exn → Mem → Prop} (h : Sat (.no : R α) P E) : False := h

/-! ### what stands in the heap -/
mutual
def repT (K : PySem.W.Frag) (H : Hp) : T → V → Prop
  | .non, v => v = .non
  | .bl b, v => v = .bl b
  | .int i, v => v = .int i
  | .str x, v => v = .str x
  | .lst ts, v => ∃ a vs, v = .ref a ∧ H a = some (.lst vs) ∧ repTs K H ts vs
  | .tup ts, v => ∃ a vs, v = .ref a ∧ H a = some (.tup vs) ∧ repTs K H ts vs
  | .dct kts, v => ∃ a kvs, v = .ref a ∧ H a = some (.dK kvs) ∧ repTK K H kts kvs
  | .dcT kts, v => ∃ a kvs, v = .ref a ∧ H a = some (.dT kvs) ∧ repTKT K H kts kvs
  | .scr ns, v => ∃ a, v = .ref a ∧ SqL K H a (ns.map V.int)
def repTs (K : PySem.W.Frag) (H : Hp) : List T → List V → Prop
  | [], vs => vs = []
  | t :: ts, vs => ∃ v r, vs = v :: r ∧ repT K H t v ∧ repTs K H ts r
def repTK (K : PySem.W.Frag) (H : Hp) : List (Key × T) → List (Key × V) → Prop
  | [], vs => vs = []
  | (k, t) :: ts, vs => ∃ v r, vs = (k, v) :: r ∧ repT K H t v ∧ repTK K H ts r
def repTKT (K : PySem.W.Frag) (H : Hp) : List (List Key × T) → List (List Key × V) → Prop
  | [], vs => vs = []
  | (k, t) :: ts, vs => ∃ v r, vs = (k, v) :: r ∧ repT K H t v ∧ repTKT K H ts r
end
mutual
theorem repT.mono {K : PySem.W.Frag} {H H' : Hp} (s : Same H H') : ∀ {t : T} {v : V}, repT K H t v → repT K H' t v
  | .non, _, h => by simpa only [repT] using h
  | .bl _, _, h => by simpa only [repT] using h
  | .int _, _, h => by simpa only [repT] using h
  | .str _, _, h => by simpa only [repT] using h
  | .lst ts, _, h => by
    simp only [repT] at h ⊢
    obtain ⟨a, vs, e, h1, h2⟩ := h
    exact ⟨a, vs, e, s _ _ h1, repTs.mono s h2⟩
  | .tup ts, _, h => by
    simp only [repT] at h ⊢
    obtain ⟨a, vs, e, h1, h2⟩ := h
    exact ⟨a, vs, e, s _ _ h1, repTs.mono s h2⟩
  | .dct ts, _, h => by
    simp only [repT] at h ⊢
    obtain ⟨a, vs, e, h1, h2⟩ := h
    exact ⟨a, vs, e, s _ _ h1, repTK.mono s h2⟩
  | .dcT ts, _, h => by
    simp only [repT] at h ⊢
    obtain ⟨a, vs, e, h1, h2⟩ := h
    exact ⟨a, vs, e, s _ _ h1, repTKT.mono s h2⟩
  | .scr ns, _, h => by
    simp only [repT] at h ⊢
    obtain ⟨a, e, h1⟩ := h
    exact ⟨a, e, s.seq h1⟩
theorem repTs.mono {K : PySem.W.Frag} {H H' : Hp} (s : Same H H') : ∀ {t : List T} {v : List V}, repTs K H t v → repTs K H' t v
  | [], _, h => by simpa only [repTs] using h
  | t :: ts, _, h => by
    simp only [repTs] at h ⊢
    obtain ⟨v, r, e, h1, h2⟩ := h
    exact ⟨v, r, e, repT.mono s h1, repTs.mono s h2⟩
theorem repTK.mono {K : PySem.W.Frag} {H H' : Hp} (s : Same H H') : ∀ {t : List (Key × T)} {v : List (Key × V)}, repTK K H t v → repTK K H' t v
  | [], _, h => by simpa only [repTK] using h
  | (k, t) :: ts, _, h => by
    simp only [repTK] at h ⊢
    obtain ⟨v, r, e, h1, h2⟩ := h
    exact ⟨v, r, e, repT.mono s h1, repTK.mono s h2⟩
theorem repTKT.mono {K : PySem.W.Frag} {H H' : Hp} (s : Same H H') : ∀ {t : List (List Key × T)} {v : List (List Key × V)}, repTKT K H t v → repTKT K H' t v
  | [], _, h => by simpa only [repTKT] using h
  | (k, t) :: ts, _, h => by
    simp only [repTKT] at h ⊢
    obtain ⟨v, r, e, h1, h2⟩ := h
    exact ⟨v, r, e, repT.mono s h1, repTKT.mono s h2⟩
end
mutual
def rep (K : PySem.W.Frag) (H : Hp) (m : List Addr) : D → V → Prop
  | .t x, v => repT K H x v
  | .ref c, v => ∃ a, m[c]? = some a ∧ v = .ref a
  | .tp ds, v => ∃ a vs, v = .ref a ∧ H a = some (.tup vs) ∧ reps K H m ds vs
def reps (K : PySem.W.Frag) (H : Hp) (m : List Addr) : List D → List V → Prop
  | [], vs => vs = []
  | d :: ds, vs => ∃ v r, vs = v :: r ∧ rep K H m d v ∧ reps K H m ds r
end
def repK (K : PySem.W.Frag) (H : Hp) (m : List Addr) {κ : Type} : List (κ × D) → List (κ × V) → Prop
  | [], vs => vs = []
  | (k, d) :: ds, vs => ∃ v r, vs = (k, v) :: r ∧ rep K H m d v ∧ repK K H m ds r
mutual
theorem rep.mono {K : PySem.W.Frag} {H H' : Hp} {m m' : List Addr} (s : Same H H') (p : ∀ (c : Nat) (a : Addr), m[c]? = some a → m'[c]? = some a) : ∀ {t : D} {v : V}, rep K H m t v → rep K H' m' t v
  | .t x, _, h => by
    simp only [rep] at h ⊢
    exact h.mono s
  | .ref c, _, h => by
    simp only [rep] at h ⊢
    obtain ⟨a, h1, h2⟩ := h
    exact ⟨a, p _ _ h1, h2⟩
  | .tp ds, _, h => by
    simp only [rep] at h ⊢
    obtain ⟨a, vs, e, h1, h2⟩ := h
    exact ⟨a, vs, e, s _ _ h1, reps.mono s p h2⟩
theorem reps.mono {K : PySem.W.Frag} {H H' : Hp} {m m' : List Addr} (s : Same H H') (p : ∀ (c : Nat) (a : Addr), m[c]? = some a → m'[c]? = some a) : ∀ {t : List D} {v : List V}, reps K H m t v → reps K H' m' t v
  | [], _, h => by simpa only [reps] using h
  | t :: ts, _, h => by
    simp only [reps] at h ⊢
    obtain ⟨v, r, e, h1, h2⟩ := h
    exact ⟨v, r, e, rep.mono s p h1, reps.mono s p h2⟩
end
theorem repK.mono {K : PySem.W.Frag} {H H' : Hp} {m m' : List Addr} {κ : Type} (s : Same H H') (p : ∀ (c : Nat) (a : Addr), m[c]? = some a → m'[c]? = some a) : ∀ {t : List (κ × D)} {v : List (κ × V)}, repK K H m t v → repK K H' m' t v
  | [], _, h => h
  | (k, t) :: ts, _, h => by
    obtain ⟨v, r, e, h1, h2⟩ := h
    exact ⟨v, r, e, rep.mono s p h1, repK.mono s p h2⟩

def repF (K : PySem.W.Frag) (H : Hp) : List (Str × T) → List (Str × V) → Prop
  | [], vs => vs = []
  | (k, t) :: ts, vs => ∃ v r, vs = (k, v) :: r ∧ repT K H t v ∧ repF K H ts r
theorem repF.mono {K : PySem.W.Frag} {H H' : Hp} (s : Same H H') : ∀ {fs : List (Str × T)} {vs : List (Str × V)}, repF K H fs vs → repF K H' fs vs
  | [], _, h => h
  | (f, t) :: fs, _, h => by
    obtain ⟨v, r, e, h1, h2⟩ := h
    exact ⟨v, r, e, repT.mono s h1, repF.mono s h2⟩
/-- one cell -/
def CellOk (K : PySem.W.Frag) (H H0 : Hp) (m : List Addr) (a : Addr) : Cell → Prop
  | .dead => True
  | .lst ds => H0 a = none ∧ ∃ vs, H a = some (.lst vs) ∧ reps K H0 m ds vs
  | .dct kds => H0 a = none ∧ ∃ kvs, H a = some (.dK kvs) ∧ repK K H0 m kds kvs
  | .dcT kds => H0 a = none ∧ ∃ kvs, H a = some (.dT kvs) ∧ repK K H0 m kds kvs
  | .exn fts => H0 a = none ∧ ∃ (C dx : Addr) (fvs : List (Str × V)), H a = some (L2.exo a C (some dx)) ∧ H0 dx = some (L2.exd dx fvs) ∧ repF K H0 fts fvs ∧ L2.XfC K C ∧ ∀ p ∈ fts, PySem.W.findIn K (.ref C) p.1 = some none
structure RelM (K : PySem.W.Frag) (H H0 : Hp) (m : List Addr) (μ : Mem) : Prop where
  same : Same H0 H
  len : m.length = μ.length
  nd : m.Nodup
  ne : ∀ a ∈ m, H a ≠ none
  cell : ∀ (c : Nat) (a : Addr) (cl : Cell), m[c]? = some a → μ[c]? = some cl → CellOk K H H0 m a cl
/-- from one moment to a later one -/
structure Step (H H0 : Hp) (m : List Addr) (H' H0' : Hp) (m' : List Addr) : Prop where
  same : Same H0 H0'
  pre : ∃ new, m' = m ++ new
  fresh : ∀ a ∈ m', a ∈ m ∨ H a = none
  frame : ∀ b o, H b = some o → b ∉ m → H' b = some o
  frz : ∀ a, H0' a ≠ none → H0 a ≠ none ∨ a ∈ m ∨ H a = none
theorem Step.refl {H H0 : Hp} {m : List Addr} : Step H H0 m H H0 m :=
  ⟨Same.refl _, ⟨[], by simp⟩, fun _ h => .inl h, fun _ _ h _ => h, fun _ h => .inl h⟩
theorem Step.at {H H0 H' H0' : Hp} {m m' : List Addr} (s : Step H H0 m H' H0' m') : ∀ (c : Nat) (a : Addr), m[c]? = some a → m'[c]? = some a := fun c a h => by
  obtain ⟨n, e⟩ := s.pre
  rw [e, List.getElem?_append_left]
  · exact h
  · exact (List.getElem?_eq_some_iff.mp h).1
theorem Step.mem {H H0 H' H0' : Hp} {m m' : List Addr} (s : Step H H0 m H' H0' m') : ∀ a ∈ m, a ∈ m' := fun a h => by
  obtain ⟨n, e⟩ := s.pre
  rw [e]
  exact List.mem_append_left _ h
theorem Step.free {H H0 H' H0' : Hp} {m m' : List Addr} (s : Step H H0 m H' H0' m') {a : Addr} (h : H' a = none) : a ∈ m ∨ H a = none := by
  cases q : H a with
  | none => exact .inr rfl
  | some o =>
    by_cases hm : a ∈ m
    · exact .inl hm
    · rw [s.frame a o q hm] at h; cases h
theorem Step.trans {H H0 H1 H01 H2 H02 : Hp} {m m1 m2 : List Addr} (a : Step H H0 m H1 H01 m1) (b : Step H1 H01 m1 H2 H02 m2) : Step H H0 m H2 H02 m2 where
  same := a.same.trans b.same
  pre := by
    obtain ⟨n, e⟩ := a.pre
    obtain ⟨n', e'⟩ := b.pre
    exact ⟨n ++ n', by rw [e', e, List.append_assoc]⟩
  fresh := fun x hx => by
    rcases b.fresh x hx with h | h
    · exact a.fresh x h
    · exact a.free h
  frame := fun x o h hn => by
    refine b.frame x o (a.frame x o h hn) fun hm => ?_
    rcases a.fresh x hm with q | q
    · exact hn q
    · rw [h] at q; cases q
  frz := fun x hx => by
    rcases b.frz x hx with h | h | h
    · exact a.frz x h
    · rcases a.fresh x h with q | q
      · exact .inr (.inl q)
      · exact .inr (.inr q)
    · rcases a.free h with q | q
      · exact .inr (.inl q)
      · exact .inr (.inr q)
theorem rep.step {K : PySem.W.Frag} {H H0 H' H0' : Hp} {m m' : List Addr} {d : D} {v : V} (h : rep K H0 m d v) (s : Step H H0 m H' H0' m') : rep K H0' m' d v := h.mono s.same s.at
theorem reps.step {K : PySem.W.Frag} {H H0 H' H0' : Hp} {m m' : List Addr} {d : List D} {v : List V} (h : reps K H0 m d v) (s : Step H H0 m H' H0' m') : reps K H0' m' d v := h.mono s.same s.at

/-! ### the slots -/
abbrev Envv := List (Option D)
structure EnvOk (K : PySem.W.Frag) (H0 : Hp) (m : List Addr) (env : Envv) (σ : L2.St) : Prop where
  len : env.length = σ.length
  get : ∀ (i : Nat) (d : D), env[i]? = some (some d) → ∃ v, σ[i]? = some (some v) ∧ rep K H0 m d v
theorem EnvOk.step {K : PySem.W.Frag} {H H0 H' H0' : Hp} {m m' : List Addr} {env : Envv} {σ : L2.St} (h : EnvOk K H0 m env σ) (s : Step H H0 m H' H0' m') : EnvOk K H0' m' env σ :=
  ⟨h.len, fun i d e => let ⟨v, h1, h2⟩ := h.get i d e; ⟨v, h1, h2.step s⟩⟩
theorem EnvOk.set {K : PySem.W.Frag} {H0 : Hp} {m : List Addr} {env : Envv} {σ : L2.St} (h : EnvOk K H0 m env σ) {i : Nat} {d : D} {v : V} (r : rep K H0 m d v) : EnvOk K H0 m (env.set i (some d)) (σ.set i (some v)) := by
  refine ⟨by simpa using h.len, fun j e q => ?_⟩
  by_cases hj : i = j
  · subst hj
    have hl : i < env.length := by
      by_cases hl : i < env.length
      · exact hl
      · rw [List.getElem?_eq_none (by simpa using hl)] at q; cases q
    rw [List.getElem?_set_self hl] at q
    cases q
    exact ⟨v, by rw [List.getElem?_set_self (by rw [← h.len]; exact hl)], r⟩
  · rw [List.getElem?_set_ne hj] at q ⊢
    exact h.get j e q
end MI
/-! MI1: the interpreter. -/
namespace MI
open PySem PySem.Spec PyProof.Rows L2

inductive Bop where | add | sub | mul | fdiv | mod | pow
  deriving DecidableEq
inductive Cop where | eq | ne | lt | le | gt | ge | isN | notN | mem | nmem
  deriving DecidableEq
inductive Bfn where | len | list | min2 | max2 | sum | all | sorted | int1 | tup1
  deriving DecidableEq
inductive Mth where | append | pop | clear | remove | insert | extend | dget | dclear | dupd
  deriving DecidableEq
/-- built-in types -/
inductive Ty where | non | bl | int | str | lst | tup | dct
  deriving DecidableEq
inductive Tg where
  | nm (i : Nat) | tp (ts : List Tg)
mutual
inductive E where
  | var (i : Nat) | cst (t : T) | glo (x : Str) (t : T)
  | bin (op : Bop) (a b : E) | neg (a : E)
  | cmp (op : Cop) (a b : E) | chn (p q : Cop) (a b c : E)
  | and (a b : E) | or (a b : E) | not (a : E) | ite (c a b : E)
  | tup (es : Es) | lst (fz : Bool) (es : Es) | dnew (kt : Bool) | dd1 (a b : E)
  | ix (a b : E) | slc (fz : Bool) (a : E) (lo hi : Eo)
  | call (f : Nat) (es : Es) | bfn (fz : Bool) (b : Bfn) (es : Es) | srev (fz : Bool) (a : E)
  | isi (a : E) (ks : List Ty)
  | mth (m : Mth) (o : E) (es : Es) | new (c : Str) (fs : List Str) (es : Es) | fldv (i : Nat) (f : Str)
  | comp (fz : Bool) (own : List (Str × Nat)) (tg : Tg) (it : It) (ifs : Es) (e : E)
inductive Es where
  | nil | cons (e : E) (es : Es)
inductive Eo where
  | none | some (e : E)
inductive It where
  | val (e : E) | rng1 (a : E) | rng2 (a b : E) | enm (e : E) | zip (a b : E) | rev (e : E)
end
/-! ### the small language of except suites -/
mutual
inductive HE where
  | var (j : Nat) | cst (t : T) | fld (f : Str) (cs : List Str) | isi (c : Str) (tab : List (Str × Bool)) | oth (f : Str) (tab : List (Str × Bool)) | cmp (op : Cop) (a b : HE) | and (a b : HE) | or (a b : HE) | or3 (a b c : HE) | not (a : HE) | tup (es : HEs) | lst (es : HEs)
inductive HEs where
  | nil | cons (e : HE) (es : HEs)
end
mutual
inductive HS where
  | ret (e : HE) | asg (j : Nat) (e : HE) | ife (c : HE) (a b : HSs) | pss | unk
inductive HSs where
  | nil | cons (s : HS) (ss : HSs)
end
mutual
inductive S where
  | asg (tg : Tg) (e : E) | setx (o i e : E) | xpr (e : E) | ret (e : E) | retN
  | ife (c : E) (a b : Ss) | for (tg : Tg) (it : It) (b : Ss) | whl (n : Nat) (c : E) (b : Ss)
  | brk | cnt | pss | unk | rse (c : Str) (fs : List Str) (es : Es) | rsm (c m : Str) | tryx (b : Ss) (c : Str) (tab : List (Str × Bool)) (i : Option Nat) (h : HSs) | tryr (e : E) (c : Str) (tab : List (Str × Bool)) (c2 m : Str)
inductive Ss where
  | nil | cons (s : S) (ss : Ss)
end

/-! ### views -/
def lstOf (μ : Mem) : D → Option (List D)
  | .t (.lst ts) => some (ts.map D.t)
  | .t (.scr ns) => some (ns.map fun n => D.t (.int n))
  | .ref c => match μ[c]? with
    | some (.lst ds) => some ds
    | _ => none
  | _ => none
def lstN (μ : Mem) : D → Option (List D)
  | .t (.scr _) => none
  | d => lstOf μ d
def tupOf : D → Option (List D)
  | .t (.tup ts) => some (ts.map D.t)
  | .tp ds => some ds
  | _ => none
def dctOf (μ : Mem) : D → Option (List (Key × D))
  | .t (.dct kts) => some (kts.map fun p => (p.1, D.t p.2))
  | .ref c => match μ[c]? with
    | some (.dct kds) => some kds
    | _ => none
  | _ => none
def dctTOf (μ : Mem) : D → Option (List (List Key × D))
  | .t (.dcT kts) => some (kts.map fun p => (p.1, D.t p.2))
  | .ref c => match μ[c]? with
    | some (.dcT kds) => some kds
    | _ => none
  | _ => none
def toT : D → Option T
  | .t x => some x
  | _ => none
def toTs : List D → Option (List T)
  | [] => some []
  | .t x :: ds => (toTs ds).map (x :: ·)
  | _ :: _ => none
def toI : D → Option Int
  | .t (.int i) => some i
  | _ => none
def toIs : List D → Option (List Int)
  | [] => some []
  | .t (.int i) :: ds => (toIs ds).map (i :: ·)
  | _ :: _ => none
def toBs : List D → Option (List Bool)
  | [] => some []
  | .t (.bl b) :: ds => (toBs ds).map (b :: ·)
  | _ :: _ => none
def keyOf : D → Option Key
  | .t (.int i) => some (.inl i)
  | .t (.str x) => some (.inr x)
  | _ => none
def keysOf : List T → Option (List Key)
  | [] => some []
  | .int i :: ts => (keysOf ts).map (Sum.inl i :: ·)
  | .str x :: ts => (keysOf ts).map (Sum.inr x :: ·)
  | _ :: _ => none
def keyTOf : D → Option (List Key)
  | .t (.tup ts) => keysOf ts
  | _ => none
def getK {κ : Type} [DecidableEq κ] (kds : List (κ × D)) (k : κ) : Option D := (kds.find? fun kd => decide (kd.1 = k)).map (·.2)
def putK {κ : Type} [DecidableEq κ] (kds : List (κ × D)) (k : κ) (d : D) : List (κ × D) :=
  if (kds.any fun kd => decide (kd.1 = k)) = true then kds.map (fun kd => if kd.1 = k then (kd.1, d) else kd) else kds ++ [(k, d)]
def flatD : D → Bool
  | .t .non => true
  | .t (.bl _) => true
  | .t (.int _) => true
  | .t (.str _) => true
  | _ => false

/-! ### operations -/
/-- a new list -/
def mkL (fz : Bool) (ds : List D) : M D := fun μ =>
  if ds.length ≤ sizeLine then
    match fz with
    | true => match toTs ds with
      | some ts => .ok (.t (.lst ts)) μ
      | none => .no
    | false => .ok (.ref μ.length) (μ ++ [.lst ds])
  else .no
def mkTup (ds : List D) : M D := fun μ =>
  if ds.length ≤ sizeLine then
    match toTs ds with
    | some ts => .ok (.t (.tup ts)) μ
    | none => .ok (.tp ds) μ
  else .no
def inR (i : Int) : Bool := decide (-(2 ^ 64) < i) && decide (i < 2 ^ 64)
/-- classical: the kernel is not to weigh such a test -/
noncomputable def ifC {α : Type} (p : Prop) (a b : α) : α := @ite α p (Classical.propDecidable p) a b
theorem ifC_pos {α : Type} {p : Prop} {a b : α} (h : p) : ifC p a b = a := by unfold ifC; exact if_pos h
noncomputable def binI : Bop → Int → Int → Option Int
  | .add, i, j => some (i + j)
  | .sub, i, j => some (i - j)
  | .mul, i, j => ifC ((inR i || inR j) = true) (some (i * j)) none
  | .fdiv, i, j => ifC (0 < j ∧ j < 1073741824) (some (i / j)) none
  | .mod, i, j => if 0 < j then some (i % j) else none
  | .pow, i, j => if 0 ≤ j ∧ j ≤ 1000000 ∧ i.natAbs < 2 ^ 64 then some (i ^ j.toNat) else none
noncomputable def binD (op : Bop) (x y : D) : M D := fun μ => match x, y with
  | .t (.int i), .t (.int j) => match binI op i j with
    | some k => .ok (.t (.int k)) μ
    | none => .no
  | _, _ => match op with
    | .add => match lstN μ x, lstN μ y with
      | some xs, some ys => mkL true (xs ++ ys) μ
      | _, _ => .no
    | .mul => match lstN μ x, y with
      | some xs, .t (.int k) => if 0 ≤ k ∧ k ≤ 1000000 ∧ xs.length * k.toNat ≤ sizeLine then mkL true (List.replicate k.toNat xs).flatten μ else .no
      | _, _ => .no
    | _ => .no
def scalD : D → D → Option Bool
  | .t .non, .t .non => some true
  | .t (.bl a), .t (.bl b) => some (a == b)
  | .t (.int a), .t (.int b) => some (a == b)
  | .t (.str a), .t (.str b) => some (decide (a = b))
  | _, _ => none
def cmpI : Cop → Int → Int → Option Bool
  | .lt, i, j => some (decide (i < j))
  | .le, i, j => some (decide (i ≤ j))
  | .gt, i, j => some (decide (j < i))
  | .ge, i, j => some (decide (j ≤ i))
  | _, _, _ => none
def isNon : D → Bool
  | .t .non => true
  | _ => false
/-- == of two flat values (True == 1) -/
def eqF : T → T → Bool
  | .non, .non => true
  | .bl a, .bl b => a == b
  | .int a, .int b => a == b
  | .str a, .str b => decide (a = b)
  | .bl a, .int b => (if a then 1 else 0) == b
  | .int a, .bl b => a == (if b then 1 else 0)
  | _, _ => false
def flatT : T → Bool
  | .non => true
  | .bl _ => true
  | .int _ => true
  | .str _ => true
  | _ => false
mutual
def toP : T → Option PyData
  | .non => some .none
  | .bl b => some (.bool b)
  | .int i => some (.int i)
  | .str x => some (.str x)
  | .lst ts => (toPs ts).map PyData.list
  | .tup ts => (toPs ts).map PyData.tuple
  | .scr ns => some (.list (ns.map PyData.int))
  | .dct _ => none
  | .dcT _ => none
def toPs : List T → Option (List PyData)
  | [] => some []
  | t :: ts => match toP t, toPs ts with
    | some d, some ds => some (d :: ds)
    | _, _ => none
end
def deepD (μ : Mem) : D → Option PyData
  | .t x => toP x
  | .ref c => match μ[c]? with
    | some (.lst ds) => ((toTs ds).bind toPs).map PyData.list
    | _ => none
  | .tp _ => none
/-- == of any depth -/
def eqP (μ : Mem) (x y : D) : Option Bool := match deepD μ x, deepD μ y with
  | some d, some e => if SeqAt.shaped d && SeqAt.shaped e then some (PyData.eqv d e) else none
  | _, _ => none
/-- in, of any depth -/
def memP (μ : Mem) (x y : D) : Option Bool := match deepD μ x, deepD μ y with
  | some d, some (.list ds) => if d.canLay0 && PyData.canLayAll0 ds && decide (d.depth ≤ 63) then some (ds.any fun z => PyData.eqv z d) else none
  | _, _ => none
def memD (x : D) (y : D) (μ : Mem) : Option Bool :=
  match dctOf μ y with
  | some kds => match keyOf x with
    | some k => some (getK kds k).isSome
    | none => none
  | none => match dctTOf μ y with
    | some kds => match keyTOf x with
      | some k => some (getK kds k).isSome
      | none => none
    | none => match (match lstOf μ y with | some l => some l | none => tupOf y) with
      | some ds => match x, toTs ds with
        | .t x, some ts => if flatT x && ts.all flatT then some (ts.any fun y => eqF y x) else memP μ (.t x) y
        | _, _ => none
      | none => none
/-- a < b of tuples of ints -/
def lexI : List Int → List Int → Bool := HT.lexLt
/-- ≤ of tuples -/
def leI (ns ms : List Int) : Bool := Ob.lexAt (fun j => decide (ns.getD j 0 = ms.getD j 0)) (fun j => decide (ns.getD j 0 ≤ ms.getD j 0)) (decide (ns.length ≤ ms.length)) 0 (min ns.length ms.length)
def tupIs (d : D) : Option (List Int) := match tupOf d with
  | some ds => toIs ds
  | none => none
def cmpD (op : Cop) (x y : D) : M D := fun μ => match op with
  | .isN => if isNon y then .ok (.t (.bl (isNon x))) μ else match x, y with
    | .t (.bl a), .t (.bl b) => .ok (.t (.bl (a == b))) μ
    | _, _ => .no
  | .notN => if isNon y then .ok (.t (.bl (!isNon x))) μ else match x, y with
    | .t (.bl a), .t (.bl b) => .ok (.t (.bl (!(a == b)))) μ
    | _, _ => .no
  | .eq => match (match scalD x y with | some b => some b | none => eqP μ x y) with
    | some b => .ok (.t (.bl b)) μ
    | none => .no
  | .ne => match (match scalD x y with | some b => some b | none => eqP μ x y) with
    | some b => .ok (.t (.bl (!b))) μ
    | none => .no
  | .mem => match memD x y μ with
    | some b => .ok (.t (.bl b)) μ
    | none => .no
  | .nmem => match memD x y μ with
    | some b => .ok (.t (.bl (!b))) μ
    | none => .no
  | op => match toI x, toI y with
    | some i, some j => match cmpI op i j with
      | some b => .ok (.t (.bl b)) μ
      | none => .no
    | _, _ => match op, tupIs x, tupIs y with
      | .lt, some ns, some ms => .ok (.t (.bl (lexI ns ms))) μ
      | .le, some ns, some ms => .ok (.t (.bl (leI ns ms))) μ
      | _, _, _ => .no
def idx (n : Nat) (i : Int) : Option Nat := if 0 ≤ i then (if i < n then some i.toNat else none) else if -(n : Int) ≤ i then some (i + n).toNat else none
def ixD (x y : D) : M D := fun μ => match dctOf μ x with
  | some kds => match keyOf y with
    | some k => match getK kds k with
      | some d => .ok d μ
      | none => .no
    | none => .no
  | none => match dctTOf μ x with
    | some kds => match keyTOf y with
      | some k => match getK kds k with
        | some d => .ok d μ
        | none => .no
      | none => .no
    | none => match (match lstOf μ x with | some l => some l | none => tupOf x), toI y with
      | some ds, some i => match (idx ds.length i).bind (fun j => ds[j]?) with
        | some d => .ok d μ
        | none => .no
      | _, _ => .no
def sIx (n d : Nat) : Option Int → Nat := HT.sIx n d
def cutD (ds : List D) (lo hi : Option Int) : List D := (ds.drop (sIx ds.length 0 lo)).take (sIx ds.length ds.length hi - sIx ds.length 0 lo)
def slcD (fz : Bool) (x : D) (lo hi : Option Int) : M D := fun μ => match lstOf μ x with
  | some ds => mkL fz (cutD ds lo hi) μ
  | none => .no
def kD : Key → D
  | .inl i => .t (.int i)
  | .inr x => .t (.str x)
def mergeD (kds more : List (Key × D)) : List (Key × D) := more.foldl (fun acc p => putK acc p.1 p.2) kds
def insI (x : Int) : List Int → List Int
  | [] => [x]
  | y :: ys => if x ≤ y then x :: y :: ys else y :: insI x ys
def sortI : List Int → List Int
  | [] => []
  | x :: xs => insI x (sortI xs)
def toPr : D → Option (Int × Int)
  | .t (.tup [.int i, .int j]) => some (i, j)
  | _ => none
def toPrs : List D → Option (List (Int × Int))
  | [] => some []
  | d :: ds => match toPr d, toPrs ds with
    | some p, some ps => some (p :: ps)
    | _, _ => none
def lexP (p q : Int × Int) : Bool := if p.1 = q.1 then decide (p.2 < q.2) else decide (p.1 < q.1)
def insP (x : Int × Int) : List (Int × Int) → List (Int × Int)
  | [] => [x]
  | y :: ys => if lexP y x then y :: insP x ys else x :: y :: ys
def sortP : List (Int × Int) → List (Int × Int)
  | [] => []
  | x :: xs => insP x (sortP xs)
def bfnD (fz : Bool) (b : Bfn) (ds : List D) : M D := fun μ => match b, ds with
  | .len, [.t (.str x)] => if x.length ≤ sizeLine then .ok (.t (.int x.length)) μ else .no
  | .len, [d] => match (match lstOf μ d with | some l => some l | none => tupOf d) with
    | some l => .ok (.t (.int l.length)) μ
    | none => match dctOf μ d with
      | some l => .ok (.t (.int l.length)) μ
      | none => .no
  | .list, [d] => match (match lstOf μ d with | some l => some l | none => tupOf d) with
    | some l => mkL fz l μ
    | none => match dctOf μ d with
      | some kds => mkL fz (kds.map fun p => kD p.1) μ
      | none => .no
  | .min2, [x, y] => match toI x, toI y with
    | some i, some j => .ok (.t (.int (if j < i then j else i))) μ
    | _, _ => .no
  | .max2, [x, y] => match toI x, toI y with
    | some i, some j => .ok (.t (.int (if j > i then j else i))) μ
    | _, _ => .no
  | .sum, [d] => match (lstOf μ d).bind toIs with
    | some ns => .ok (.t (.int ns.sum)) μ
    | none => .no
  | .all, [d] => match (lstOf μ d).bind toBs with
    | some bs => .ok (.t (.bl (bs.all id))) μ
    | none => .no
  | .sorted, [d] => match (lstOf μ d).bind toIs with
    | some ns => mkL fz ((sortI ns).map fun n => D.t (.int n)) μ
    | none => match (lstOf μ d).bind toPrs with
      | some ps => mkL fz ((sortP ps).map fun p => D.t (.tup [.int p.1, .int p.2])) μ
      | none => .no
  | .int1, [.t (.int i)] => .ok (.t (.int i)) μ
  | .int1, [.t (.bl b)] => .ok (.t (.int (if b = true then 1 else 0))) μ
  | .tup1, [d] => match lstOf μ d with
    | some l => mkTup l μ
    | none => .no
  | _, _ => .no
/-- sorted(x, reverse=True) -/
def srevD (fz : Bool) (d : D) : M D := fun μ => match (lstOf μ d).bind toIs with
  | some ns => mkL fz ((sortI ns).reverse.map fun n => D.t (.int n)) μ
  | none => match (lstOf μ d).bind toPrs with
    | some ps => mkL fz ((sortP ps).reverse.map fun p => D.t (.tup [.int p.1, .int p.2])) μ
    | none => .no
/-- the built-in type -/
def tyOf (μ : Mem) : D → Option Ty
  | .t .non => some .non
  | .t (.bl _) => some .bl
  | .t (.int _) => some .int
  | .t (.str _) => some .str
  | .t (.lst _) => some .lst
  | .t (.tup _) => some .tup
  | .t (.dct _) => some .dct
  | .t (.dcT _) => some .dct
  | .t (.scr _) => none
  | .tp _ => some .tup
  | .ref c => match μ[c]? with
    | some (.lst _) => some .lst
    | some (.dct _) => some .dct
    | some (.dcT _) => some .dct
    | _ => none
def isB : Ty → Ty → Bool
  | .non, .non => true
  | .bl, .bl => true
  | .bl, .int => true
  | .int, .int => true
  | .str, .str => true
  | .lst, .lst => true
  | .tup, .tup => true
  | .dct, .dct => true
  | _, _ => false
def isAny (n : Ty) : List Ty → Bool
  | [] => false
  | k :: ks => isB n k || isAny n ks
def isiD (ks : List Ty) (x : D) : M D := fun μ => match tyOf μ x with
  | some n => .ok (.t (.bl (isAny n ks))) μ
  | none => .no
def mthT : Mth → Ty
  | .append => .lst | .pop => .lst | .clear => .lst | .remove => .lst | .insert => .lst | .extend => .lst | .dget => .dct | .dclear => .dct | .dupd => .dct
def tyChk (n : Ty) (x : D) : M Unit := fun μ => if tyOf μ x = some n then .ok () μ else .no
def mthD (m : Mth) (o : D) (ds : List D) : M D := fun μ => match m, o, ds with
  | .append, .ref c, [d] => match μ[c]? with
    | some (.lst xs) => if xs.length < sizeLine then .ok (.t .non) (μ.set c (.lst (xs ++ [d]))) else .no
    | _ => .no
  | .pop, .ref c, [] => match μ[c]? with
    | some (.lst xs) => match xs[xs.length - 1]? with
      | some d => .ok d (μ.set c (.lst xs.dropLast))
      | none => .no
    | _ => .no
  | .clear, .ref c, [] => match μ[c]? with
    | some (.lst _) => .ok (.t .non) (μ.set c (.lst []))
    | _ => .no
  | .remove, .ref c, [.t (.int i)] => match μ[c]? with
    | some (.lst xs) => match toIs xs with
      | some ns => if i ∈ ns then .ok (.t .non) (μ.set c (.lst ((ns.erase i).map fun n => D.t (.int n)))) else .no
      | none => .no
    | _ => .no
  | .remove, .ref c, [.t (.tup [.int i, .int j])] => match μ[c]? with
    | some (.lst xs) => match toPrs xs with
      | some ps => match ps.findIdx? (fun p => decide (p = (i, j))) with
        | some n => .ok (.t .non) (μ.set c (.lst (xs.eraseIdx n)))
        | none => .no
      | none => .no
    | _ => .no
  | .insert, .ref c, [.t (.int i), d] => match μ[c]? with
    | some (.lst xs) => if xs.length < sizeLine ∧ 0 ≤ i ∧ i < 4611686018427387904 then .ok (.t .non) (μ.set c (.lst (xs.take i.toNat ++ [d] ++ xs.drop i.toNat))) else .no
    | _ => .no
  | .extend, .ref c, [d] => match μ[c]?, lstN μ d with
    | some (.lst xs), some ds => if xs.length + ds.length ≤ sizeLine then .ok (.t .non) (μ.set c (.lst (xs ++ ds))) else .no
    | _, _ => .no
  | .dget, o, [y, z] => match dctOf μ o with
    | some kds => match keyOf y with
      | some k => .ok ((getK kds k).getD z) μ
      | none => .no
    | none => match dctTOf μ o with
      | some kds => match keyTOf y with
        | some k => .ok ((getK kds k).getD z) μ
        | none => .no
      | none => .no
  | .dclear, .ref c, [] => match μ[c]? with
    | some (.dct _) => .ok (.t .non) (μ.set c (.dct []))
    | _ => .no
  | .dupd, .ref c, [d] => match μ[c]?, d with
    | some (.dct kds), .t (.dct more) => if kds.length + more.length ≤ sizeLine then .ok (.t .non) (μ.set c (.dct (mergeD kds (more.map fun p => (p.1, D.t p.2))))) else .no
    | _, _ => .no
  | _, _, _ => .no
/-- o[i] = d -/
def setD (o i d : D) : Mem → Option Mem := fun μ => match o with
  | .ref c => match μ[c]? with
    | some (.lst xs) => match toI i with
      | some n => match idx xs.length n with
        | some j => some (μ.set c (.lst (xs.set j d)))
        | none => none
      | none => none
    | some (.dct kds) => match keyOf i with
      | some k => if kds.length < sizeLine then some (μ.set c (.dct (putK kds k d))) else none
      | none => none
    | some (.dcT kds) => match keyTOf i with
      | some k => if kds.length < sizeLine then some (μ.set c (.dcT (putK kds k d))) else none
      | none => none
    | _ => none
  | _ => none

/-! ### targets -/
mutual
def asgT : Tg → D → Envv → Option Envv
  | .nm i, d, env => some (env.set i (some d))
  | .tp ts, d, env => match tupOf d with
    | some ds => asgTs ts ds env
    | none => none
def asgTs : List Tg → List D → Envv → Option Envv
  | [], [], env => some env
  | t :: ts, d :: ds, env => match asgT t d env with
    | some env' => asgTs ts ds env'
    | none => none
  | _, _, _ => none
end
def wipeD (env : Envv) : List Nat → Envv
  | [] => env
  | v :: vs => (wipeD env vs).set v none

/-! ### what is walked -/
abbrev Watch := List (Nat × List D)
def WOk (μ : Mem) (w : Watch) : Prop := ∀ p ∈ w, μ[p.1]? = some (.lst p.2)
def watchL : D → List D → Watch
  | .ref c, ds => [(c, ds)]
  | _, _ => []
def noEx {α : Type} (r : R α) : R α := match r with
  | .ok a μ => .ok a μ
  | _ => .no
open Classical in
noncomputable def compLoop (tg : Tg) (env : Envv) (c : Envv → M Bool) (el : Envv → M D) (w : Watch) : List D → List D → M (List D)
  | [], acc => fun μ => if WOk μ w then .ok acc μ else .no
  | d :: ds, acc => fun μ => if WOk μ w then
      match asgT tg d env with
      | some env' => bnd (fun μ => noEx (c env' μ)) (fun b => if b = true then bnd (fun μ => noEx (el env' μ)) (fun x => compLoop tg env c el w ds (acc ++ [x])) else compLoop tg env c el w ds acc) μ
      | none => .no
    else .no
def toB (d : D) : M Bool := fun μ => match d with
  | .t (.bl b) => .ok b μ
  | _ => .no
def lookF (fs : List (Str × T)) (f : Str) : Option T := (fs.find? fun p => decide (p.1 = f)).map (·.2)
abbrev Orac := Nat → List D → M D
def enumD : Nat → List D → List D
  | _, [] => []
  | k, .t x :: ds => .t (.tup [.int k, x]) :: enumD (k + 1) ds
  | k, d :: ds => .tp [.t (.int k), d] :: enumD (k + 1) ds
def pairD : D → D → D
  | .t x, .t y => .t (.tup [x, y])
  | d, e => .tp [d, e]
def rngD (lo : Int) : Nat → List D
  | 0 => []
  | n + 1 => .t (.int lo) :: rngD (lo + 1) n
def inRg (i : Int) : Prop := -(2 ^ 62) ≤ i ∧ i < 2 ^ 62
open Classical in
noncomputable def rngM0 (j : Int) : M (List D × Watch) := fun μ => if inRg j then .ok (rngD 0 j.toNat, []) μ else .no
open Classical in
noncomputable def rngM (i j : Int) : M (List D × Watch) := fun μ => if inRg i ∧ inRg j then .ok (rngD i (j - i).toNat, []) μ else .no
mutual
noncomputable def evE (F : Orac) : E → Envv → M D
  | .var i, env => fun μ => match env[i]? with
    | some (some d) => .ok d μ
    | _ => .no
  | .cst t, _ => pur (.t t)
  | .glo _ t, _ => pur (.t t)
  | .bin op a b, env => bnd (evE F a env) fun x => bnd (evE F b env) fun y => binD op x y
  | .neg a, env => bnd (evE F a env) fun x => fun μ => match toI x with
    | some i => .ok (.t (.int (-i))) μ
    | none => .no
  | .cmp op a b, env => bnd (evE F a env) fun x => bnd (evE F b env) fun y => cmpD op x y
  | .chn p q a b c, env => bnd (evE F a env) fun x => bnd (evE F b env) fun y => bnd (cmpD p x y) fun r => bnd (toB r) fun k => if k = true then bnd (evE F c env) fun z => cmpD q y z else pur (.t (.bl false))
  | .and a b, env => bnd (evE F a env) fun x => bnd (toB x) fun k => if k = true then evE F b env else pur (.t (.bl false))
  | .or a b, env => bnd (evE F a env) fun x => bnd (toB x) fun k => if k = true then pur (.t (.bl true)) else evE F b env
  | .not a, env => bnd (evE F a env) fun x => bnd (toB x) fun k => pur (.t (.bl (!k)))
  | .ite c a b, env => bnd (evE F c env) fun x => bnd (toB x) fun k => if k = true then evE F a env else evE F b env
  | .tup es, env => bnd (evEs F es env) mkTup
  | .lst fz es, env => bnd (evEs F es env) (mkL fz)
  | .dnew kt, _ => fun μ => .ok (.ref μ.length) (μ ++ [if kt then .dcT [] else .dct []])
  | .dd1 a b, env => bnd (evE F a env) fun x => bnd (evE F b env) fun y => fun μ => match keyOf x with
    | some k => .ok (.ref μ.length) (μ ++ [.dct [(k, y)]])
    | none => .no
  | .ix a b, env => bnd (evE F a env) fun x => bnd (evE F b env) fun y => ixD x y
  | .slc fz a lo hi, env => bnd (evE F a env) fun x => bnd (evEo F lo env) fun l => bnd (evEo F hi env) fun h => slcD fz x l h
  | .call f es, env => bnd (evEs F es env) (F f)
  | .bfn fz b es, env => bnd (evEs F es env) (bfnD fz b)
  | .srev fz a, env => bnd (evE F a env) (srevD fz)
  | .isi a ks, env => bnd (evE F a env) (isiD ks)
  | .mth m o es, env => bnd (evE F o env) fun x => bnd (tyChk (mthT m) x) fun _ => bnd (evEs F es env) (mthD m x)
  | .new _ fs es, env => bnd (evEs F es env) fun ds => fun μ => match toTs ds with
    | some ts => if ts.length = fs.length then .ok (.ref μ.length) (μ ++ [.exn (fs.zip ts).reverse]) else .no
    | none => .no
  | .fldv i f, env => fun μ => match env[i]? with
    | some (some (.ref c)) => match μ[c]? with
      | some (.exn fts) => match lookF fts f with
        | some t => .ok (.t t) μ
        | none => .no
      | _ => .no
    | _ => .no
  | .comp fz own tg it ifs e, env => bnd (evI F it env) fun p => fun μ =>
      if p.1.length ≤ sizeLine then bnd (compLoop tg (wipeD env (own.map (·.2))) (fun env => evC F ifs env) (fun env => evE F e env) p.2 p.1 []) (mkL fz) μ else .no
noncomputable def evEs (F : Orac) : Es → Envv → M (List D)
  | .nil, _ => pur []
  | .cons e es, env => bnd (evE F e env) fun d => bnd (evEs F es env) fun ds => pur (d :: ds)
noncomputable def evEo (F : Orac) : Eo → Envv → M (Option Int)
  | .none, _ => pur none
  | .some e, env => bnd (evE F e env) fun x => fun μ => match toI x with
    | some i => .ok (some i) μ
    | none => .no
/-- a comprehension's tests: none or one -/
noncomputable def evC (F : Orac) : Es → Envv → M Bool
  | .nil, _ => pur true
  | .cons e .nil, env => bnd (evE F e env) toB
  | _, _ => stuck
noncomputable def evI (F : Orac) : It → Envv → M (List D × Watch)
  | .val e, env => bnd (evE F e env) fun x => fun μ => match lstOf μ x with
    | some ds => .ok (ds, watchL x ds) μ
    | none => match tupOf x with
      | some ds => .ok (ds, []) μ
      | none => .no
  | .rng1 a, env => bnd (evE F a env) fun x => fun μ => match toI x with
    | some j => rngM0 j μ
    | none => .no
  | .rng2 a b, env => bnd (evE F a env) fun x => bnd (evE F b env) fun y => fun μ => match toI x, toI y with
    | some i, some j => rngM i j μ
    | _, _ => .no
  | .enm e, env => bnd (evE F e env) fun x => fun μ => match lstOf μ x with
    | some ds => .ok (enumD 0 ds, watchL x ds) μ
    | none => .no
  | .zip a b, env => bnd (evE F a env) fun x => bnd (evE F b env) fun y => fun μ => match lstOf μ x, lstOf μ y with
    | some ds, some es => .ok (List.zipWith pairD ds es, watchL x ds ++ watchL y es) μ
    | _, _ => match tupOf x, tupOf y with
      | some ds, some es => .ok (List.zipWith pairD ds es, []) μ
      | _, _ => .no
  | .rev e, env => bnd (evE F e env) fun x => fun μ => match lstOf μ x with
    | some ds => .ok (ds.reverse, watchL x ds) μ
    | none => .no
end

/-! ### statements -/
inductive Out where
  | nx (env : Envv) | rt (d : D) | bk (env : Envv) | ct (env : Envv) | ex (x : Exn) (env : Envv)
abbrev MO := Mem → Option (Out × Mem)
def lift {α : Type} (x : M α) (env : Envv) (f : α → MO) : MO := fun μ => match x μ with
  | .ok a μ' => f a μ'
  | .ex e μ' => some (.ex e env, μ')
  | .no => none
def outO (o : Out) : MO := fun μ => some (o, μ)
/-- what follows a block's first statement -/
def andThen (x : MO) (f : Envv → MO) : MO := fun μ => match x μ with
  | some (.nx env, μ') => f env μ'
  | some (o, μ') => some (o, μ')
  | none => none
open Classical in
noncomputable def forLoop (tg : Tg) (b : Envv → MO) (w : Watch) : List D → Envv → MO
  | [], env => fun μ => if WOk μ w then some (.nx env, μ) else none
  | d :: ds, env => fun μ => if WOk μ w then
      match asgT tg d env with
      | some env' => match b env' μ with
        | some (.nx env'', μ') => forLoop tg b w ds env'' μ'
        | some (.ct env'', μ') => forLoop tg b w ds env'' μ'
        | some (.bk env'', μ') => some (.nx env'', μ')
        | some (.rt d, μ') => some (.rt d, μ')
        | some (.ex x env'', μ') => some (.ex x env'', μ')
        | none => none
      | none => none
    else none
def whlLoop (c : Envv → M Bool) (b : Envv → MO) : Nat → Envv → MO
  | 0, _ => fun _ => none
  | n + 1, env => lift (c env) env fun k => if k = true then fun μ => match b env μ with
        | some (.nx env'', μ') => whlLoop c b n env'' μ'
        | some (.ct env'', μ') => whlLoop c b n env'' μ'
        | some (.bk env'', μ') => some (.nx env'', μ')
        | some (.rt d, μ') => some (.rt d, μ')
        | some (.ex x env'', μ') => some (.ex x env'', μ')
        | none => none
      else outO (.nx env)
/-! ### except suites -/
def lookT (tab : List (Str × Bool)) (c : Str) : Option Bool := (tab.find? fun p => decide (p.1 = c)).map (·.2)
mutual
def evH (x : Exn) : HE → Envv → M D
  | .var j, env => fun μ => match env[j]? with
    | some (some d) => .ok d μ
    | _ => .no
  | .cst t, _ => pur (.t t)
  | .fld f cs, _ => fun μ => if x.cls ∈ cs then match lookF x.fs f with
      | some t => .ok (.t t) μ
      | none => .no
    else .no
  | .isi _ tab, _ => fun μ => match lookT tab x.cls with
    | some b => .ok (.t (.bl b)) μ
    | none => .no
  | .oth _ tab, _ => fun μ => match lookT tab x.cls with
    | some b => .ok (.t (.bl b)) μ
    | none => .no
  | .cmp op a b, env => bnd (evH x a env) fun u => bnd (evH x b env) fun v => cmpD op u v
  | .and a b, env => bnd (evH x a env) fun u => bnd (toB u) fun k => if k = true then evH x b env else pur (.t (.bl false))
  | .or a b, env => bnd (evH x a env) fun u => bnd (toB u) fun k => if k = true then pur (.t (.bl true)) else evH x b env
  | .or3 a b c, env => bnd (evH x a env) fun u => bnd (toB u) fun k => if k = true then pur (.t (.bl true)) else bnd (evH x b env) fun u => bnd (toB u) fun k => if k = true then pur (.t (.bl true)) else evH x c env
  | .not a, env => bnd (evH x a env) fun u => bnd (toB u) fun k => pur (.t (.bl (!k)))
  | .tup es, env => bnd (evHs x es env) mkTup
  | .lst es, env => bnd (evHs x es env) (mkL true)
def evHs (x : Exn) : HEs → Envv → M (List D)
  | .nil, _ => pur []
  | .cons e es, env => bnd (evH x e env) fun d => bnd (evHs x es env) fun ds => pur (d :: ds)
end
def liftH {α : Type} (x : M α) (f : α → MO) : MO := fun μ => match x μ with
  | .ok a μ' => f a μ'
  | _ => none
mutual
def evHS (x : Exn) : HS → Envv → MO
  | .ret e, env => liftH (evH x e env) fun d => outO (.rt d)
  | .asg j e, env => liftH (evH x e env) fun d => outO (.nx (env.set j (some d)))
  | .ife c a b, env => liftH (bnd (evH x c env) toB) fun k => if k = true then evHSs x a env else evHSs x b env
  | .pss, env => outO (.nx env)
  | .unk, _ => fun _ => none
def evHSs (x : Exn) : HSs → Envv → MO
  | .nil, env => outO (.nx env)
  | .cons s ss, env => andThen (evHS x s env) fun env => evHSs x ss env
end
/-- the clause's name is unbound behind the suite -/
def unbE (i : Option Nat) (env : Envv) : Envv := match i with
  | some j => env.set j none
  | none => env
def okI (i : Option Nat) (env : Envv) : Bool := match i with
  | some j => decide (j < env.length)
  | none => true
def unbO (i : Option Nat) : Out → Out
  | .nx env => .nx (unbE i env)
  | .rt d => .rt d
  | .bk env => .bk (unbE i env)
  | .ct env => .ct (unbE i env)
  | .ex x env => .ex x (unbE i env)
def tryO (tab : List (Str × Bool)) (i : Option Nat) (g : Exn → Envv → MO) : Option (Out × Mem) → Option (Out × Mem)
  | some (.ex x env, μ) => match lookT tab x.cls with
    | some true => if okI i env = true then match g x (unbE i env) μ with
        | some (o, μ') => some (unbO i o, μ')
        | none => none
      else none
    | some false => some (.ex x env, μ)
    | none => none
  | r => r
/-- behind a try whose suite raises c2 from None -/
def tryR (tab : List (Str × Bool)) (c2 : Str) : Option (Out × Mem) → Option (Out × Mem)
  | some (.ex x env, μ) => match lookT tab x.cls with
    | some true => some (.ex ⟨c2, []⟩ env, μ)
    | some false => some (.ex x env, μ)
    | none => none
  | r => r
mutual
noncomputable def evS (F : Orac) : S → Envv → MO
  | .asg tg e, env => lift (evE F e env) env fun d => fun μ => match asgT tg d env with
    | some env' => some (.nx env', μ)
    | none => none
  | .setx o i e, env => lift (evE F e env) env fun d => lift (evE F o env) env fun x => lift (evE F i env) env fun y => fun μ => match setD x y d μ with
    | some μ' => some (.nx env, μ')
    | none => none
  | .xpr e, env => lift (evE F e env) env fun _ => outO (.nx env)
  | .ret e, env => lift (evE F e env) env fun d => outO (.rt d)
  | .retN, _ => outO (.rt (.t .non))
  | .ife c a b, env => lift (bnd (evE F c env) toB) env fun k => if k = true then evSs F a env else evSs F b env
  | .for tg it b, env => lift (evI F it env) env fun p => forLoop tg (fun env => evSs F b env) p.2 p.1 env
  | .whl n c b, env => whlLoop (fun env => bnd (evE F c env) toB) (fun env => evSs F b env) n env
  | .brk, env => outO (.bk env)
  | .cnt, env => outO (.ct env)
  | .pss, env => outO (.nx env)
  | .unk, _ => fun _ => none
  | .rse c fs es, env => lift (evEs F es env) env fun ds => fun μ => match toTs ds with
    | some ts => if ts.length = fs.length then some (.ex ⟨c, (fs.zip ts).reverse⟩ env, μ) else none
    | none => none
  | .rsm c _, env => outO (.ex ⟨c, []⟩ env)
  | .tryr e _ tab c2 _, env => fun μ => tryR tab c2 (lift (evE F e env) env (fun _ => outO (.nx env)) μ)
  | .tryx b _ tab i h, env => fun μ => tryO tab i (fun x env => evHSs x h env) (evSs F b env μ)
noncomputable def evSs (F : Orac) : Ss → Envv → MO
  | .nil, env => outO (.nx env)
  | .cons s ss, env => andThen (evS F s env) fun env => evSs F ss env
end

/-! ### defs -/
inductive Md where | frz | cell | keep
  deriving DecidableEq
structure Def where
  ar : Nat
  n : Nat
  md : Md
  body : Ss
/-- all that is in it frozen -/
def frzD (μ : Mem) (n : Nat) : Nat → D → Option T
  | 0, d => toT d
  | k + 1, d => match d with
    | .t x => some x
    | .tp ds => (ds.mapM (frzD μ n k)).map T.tup
    | .ref c => if n ≤ c then match μ[c]? with
        | some (.lst ds) => (ds.mapM (frzD μ n k)).map T.lst
        | some (.dct kds) => (kds.mapM fun p => (frzD μ n k p.2).map fun x => (p.1, x)).map T.dct
        | some (.dcT kds) => (kds.mapM fun p => (frzD μ n k p.2).map fun x => (p.1, x)).map T.dcT
        | _ => none
      else none
def isT : D → Bool
  | .t _ => true
  | _ => false
def cellT : Cell → Bool
  | .dead => true
  | .lst ds => ds.all isT
  | .dct kds => kds.all fun p => isT p.2
  | .dcT kds => kds.all fun p => isT p.2
  | .exn _ => true
/-- the caller's cells stand as they did, or without cells in them -/
def OkBack (μ0 μ : Mem) : Prop := μ0.length ≤ μ.length ∧ ∀ c, c < μ0.length → μ[c]? = μ0[c]? ∨ ∃ cl, μ[c]? = some cl ∧ cellT cl = true
open Classical in
/-- back to the caller's cells: n of them stood -/
noncomputable def leave (md : Md) (μ0 : Mem) (d : D) (μ : Mem) : R D :=
  if OkBack μ0 μ then
    match md with
    | .frz => match frzD μ μ0.length 4 d with
      | some t => .ok (.t t) (μ.take μ0.length)
      | none => .no
    | .cell => match d with
      | .ref c => if μ0.length ≤ c then match μ[c]? with
          | some cl => if cellT cl then .ok (.ref μ0.length) (μ.take μ0.length ++ [cl]) else .no
          | none => .no
        else .no
      | _ => .no
    | .keep => .ok d μ
  else .no
open Classical in
noncomputable def leaveX (μ0 : Mem) (x : Exn) (μ : Mem) : R D :=
  if OkBack μ0 μ then .ex x (μ.take μ0.length) else .no
noncomputable def callI (defs : Nat → Option Def) : Nat → Orac
  | 0, _, _ => stuck
  | k + 1, f, ds => fun μ => match defs f with
    | none => .no
    | some d => if ds.length = d.ar then
        match evSs (callI defs k) d.body (ds.map some ++ List.replicate (d.n - d.ar) none) μ with
        | some (.rt x, μ') => leave d.md μ x μ'
        | some (.nx _, μ') => leave d.md μ (.t .non) μ'
        | some (.ex x _, μ') => leaveX μ x μ'
        | _ => .no
      else .no
end MI
/-! MIE: rules for exceptions that the hand layer has not. -/
namespace MI
open PySem PySem.Spec PyProof.Rows L2
/-- C(e, ..), C's __init__ walked as a def; its context is None -/
theorem pmk_new {X : Cx} {CX : CXT} {nm : Str} {C fI : Addr} {j : Nat} {fd : FuncData} {prs : List Str} {sp : Sp} {e1 : Expr} {es1 : List Expr} {t1 : TA} {q1 q2 : Pos} (TC : OexC X.K C)
    (hI : PySem.W.findIn X.K (.ref C) "__init__" = some (some (.ref fI))) (hT : PySem.W.typeIn X.K (.ref fI) = some (.type "function")) (FI : FnOk X.prog X.w X.K X.mg X.base CX j fI fd prs sp)
    (rm : Room (j + 1) X.A) (bd : Binds X.K fd prs []) (ps0 : Passes CX X (fun _ _ _ => False)) (gl : Gl X nm) (mgx : X.mg nm = some (.ref C)) (pa : PA X (e1 :: es1) t1) (dbg : (nm == ("__debug__" : Str)) = false)
    (st1 : starEach (e1 :: es1) X.env = (false, eval e1 X.env) :: starEach es1 X.env) (st2 : (backTo q2 (starEach es1 X.env)).any (·.1) = false) :
    L2N.PMk X (.Call (.Name nm q1) (e1 :: es1) [] q2) (tMkO C sp [] t1) := by
  intro pns s0 σ0 Hh Qx Iv hh
  have TC' := TC.cls
  obtain ⟨a1, a2, a3, a4, bmv, a6, a7, a8, a9, a10, a11, a12, a13, a14, a15, lkC, rve⟩ := TC'
  refine wpAny_Call_Name_kw (ld_glob Iv gl mgx ?_ dbg)
  refine PySem.W.callWith_K (h₀ := X.base) Iv.ok.mod.kin TC.kC (thn (pa.run q2 pns s0 σ0 Hh _ Iv hh) fun wv sA ⟨xs, HA, IA, rA, hzA, qA⟩ => ⟨IA.kIn, ?_⟩) st1 st2
  show wpAny _ _ (call (.ref C) wv) _ _ _
  obtain ⟨g0, g1, g2, g3, g4⟩ := sA
  let a0 : Addr := g0.objs.size + 1
  have big : g0.objs.size ≤ a0 := Nat.le_succ _
  have free : HA a0 = none := IA.hok.fresh big
  have hsp := qA a0 free
  rw [List.append_nil] at hsp
  have keep : ∀ c o, g0.get? c = some o → ((g0.push (PySem.W.kdv_tup wv)).push (PySem.HandSPX.excO C g0.objs.size)).get? c = some o := fun c o z =>
    Heap.get?_push_of_some _ (Heap.get?_push_of_some _ z)
  have there : ((g0.push (PySem.W.kdv_tup wv)).push (PySem.HandSPX.excO C g0.objs.size)).get? (g0.objs.size + 1) = some (PySem.HandSPX.excO C g0.objs.size) := by heap_get
  have IB : Inv X pns σ0 (upd HA a0 (exo a0 C none)) ⟨(g0.push (PySem.W.kdv_tup wv)).push (PySem.HandSPX.excO C g0.objs.size), g1, g2, g3, g4⟩ :=
    IA.laid (t' := g3) (a := a0) (o := exo a0 C none) (h' := (g0.push (PySem.W.kdv_tup wv)).push (PySem.HandSPX.excO C g0.objs.size)) keep big (exo_ok there)
  have vals : Vals (V.ref a0 :: xs) (Value.ref a0 :: wv) := .cons rfl rA
  have len1 : (Value.ref a0 :: wv ++ []).length = prs.length := by
    have z := vals.length
    rw [FI.len _ _ _ _ hsp] at z
    rw [List.append_nil]
    exact z.symm
  have few : wv.length ≤ sizeLine := by
    rw [← Paired.length rA, sizeLine_eq]
    omega
  have bnd := bd _ (Value.ref a0 :: wv) IB.kIn len1
  rw [List.append_nil] at bnd
  have run := FI.run _ X.stack _ _ ⟨Value.ref a0 :: wv, []⟩ (Value.ref a0 :: wv) _ _ (fun _ _ _ => False) (rm.make C wv []) (IB.env0.make C wv []) bnd vals hsp
  refine wpAny_call (PySem.HandSPX.call_own F.excBase_ValueError (fun Y => PySem.HandSPX.refsVE_contains Y bmv rve) (IA.kIn _ _ lkC) (PySem.W.looks_findIn IA.kIn hI) (fun me => PySem.W.bind_fn IA.kIn me hT) few
    (codeAny_mono run fun res sB hB => ?_))
  cases res with
  | error er => exact ps0 pns σ0 _ _ er sB IB hB
  | ok fl =>
    cases fl with
    | next => exact False.elim hB
    | brk => exact False.elim hB
    | cont => exact False.elim hB
    | ret u =>
      obtain ⟨v, HB, osB, bareB, unB, hokB, rv, ev, d, fs, ea, ed, hd1, qB⟩ := hB
      subst ev
      obtain ⟨k0, k1, k2, k3, k4⟩ := sB
      obtain ⟨t0, G, J, kG, ge, hoe, na⟩ := mk_end0 (d2 := k2) (t2 := k3) IA big keep unB hokB osB bareB ea ed hd1
      exact ⟨rv, a0, _, _, ⟨G, k1, k2, k3, k4⟩, _, .ref C, some d, rfl, J, kG, ge, hoe, ⟨rfl, rfl, fun vs hv => (by cases hv; rfl)⟩, rfl, rfl, na, rfl, bareB, raises_own TC.exC TC.tyC, qB⟩
/-- what __init__ does: the fields fs, one after the other -/
def spIni (K : PySem.W.Frag) (C : Addr) (fs : List Str) : Sp := fun vs H Q _ => ∃ (a : Addr) (ys : List V), vs = .ref a :: ys ∧ ys.length = fs.length ∧ OexC K C ∧ (∀ f ∈ fs, PySem.W.findIn K (.ref C) f = some none) ∧ H a = some (exo a C none) ∧
  ∀ dx, H dx = none → dx ≠ a → Q .non (upd (upd H dx (exd dx (fs.zip ys).reverse)) a (exo a C (some dx)))
theorem len_ini {K : PySem.W.Frag} {C : Addr} {fs : List Str} {slf : Str} : ∀ vs H Q E, spIni K C fs vs H Q E → vs.length = (slf :: fs).length := fun vs H Q E ⟨a, ys, e, l, _⟩ => by rw [e, List.length_cons, List.length_cons, l]
section
variable {CX : CXT} {P : Program} {w : World} {K : PySem.W.Frag} {mg : Str → Option Value} {base : Heap} {fI C : Addr} {qual slf f1 f2 : Str} {scope : Scope} {kV doc pm cdv ct oc : Value} {an od : Option Addr} {osl : Array (Option Value)} {prm : Arguments}
/-- def __init__(self, f): self.f = f -/
theorem fn_ini1 {p1 p2 p3 p4 : Pos} (lk : K.lookup fI = some ⟨oc, od, .func (PySem.W.fnOf "__init__" qual prm [.Assign [.Attribute (.Name slf p1) f1 p2] (.Name f1 p3) p4] scope .none kV doc pm an cdv ct), osl⟩) (hcd : PySem.W.codeIn K cdv qual = true)
    (S : FnScope [slf, f1] [slf, f1] scope) (v1 : Vis scope slf) (v2 : Vis scope f1) (d1 : (slf == ("__debug__" : Str)) = false) (d2 : (f1 == ("__debug__" : Str)) = false) (c1 : (slf == ("__classdict__" : Str)) = false) (c2 : (f1 == ("__classdict__" : Str)) = false) :
    FnOk P w K mg base CX 1 fI (PySem.W.fnOf "__init__" qual prm [.Assign [.Attribute (.Name slf p1) f1 p2] (.Name f1 p3) p4] scope .none kV doc pm an cdv ct) [slf, f1] (spIni K C [f1]) := by
  refine fn_of lk hcd S len_ini fun A outer s H vs Q E hr hsp => ?_
  obtain ⟨a, ys, rfl, hl, T, hno, ha, q⟩ := hsp
  obtain ⟨y, rfl⟩ : ∃ y, ys = [y] := by
    cases ys with
    | nil => simp at hl
    | cons y r =>
      cases r with
      | nil => exact ⟨y, rfl⟩
      | cons _ _ => simp at hl
  refine ⟨_, pss_cons (ps_ost (pe_var (i := 0) rfl v1 d1 c1) (pe_var (i := 1) rfl v2 d2 c2)) pss_nil, ?_⟩
  refine ⟨y, rfl, .ref a, rfl, a, C, rfl, T, hno f1 (by simp), .inl ⟨ha, fun dx hn hne => ?_⟩⟩
  exact q dx hn hne
/-- def __init__(self, f, g): self.f = f; self.g = g -/
theorem fn_ini2 {p1 p2 p3 p4 r1 r2 r3 r4 : Pos} (lk : K.lookup fI = some ⟨oc, od, .func (PySem.W.fnOf "__init__" qual prm [.Assign [.Attribute (.Name slf p1) f1 p2] (.Name f1 p3) p4, .Assign [.Attribute (.Name slf r1) f2 r2] (.Name f2 r3) r4] scope .none kV doc pm an cdv ct), osl⟩)
    (hcd : PySem.W.codeIn K cdv qual = true) (S : FnScope [slf, f1, f2] [slf, f1, f2] scope) (v1 : Vis scope slf) (v2 : Vis scope f1) (v3 : Vis scope f2) (d1 : (slf == ("__debug__" : Str)) = false) (d2 : (f1 == ("__debug__" : Str)) = false) (d3 : (f2 == ("__debug__" : Str)) = false)
    (c1 : (slf == ("__classdict__" : Str)) = false) (c2 : (f1 == ("__classdict__" : Str)) = false) (c3 : (f2 == ("__classdict__" : Str)) = false) :
    FnOk P w K mg base CX 1 fI (PySem.W.fnOf "__init__" qual prm [.Assign [.Attribute (.Name slf p1) f1 p2] (.Name f1 p3) p4, .Assign [.Attribute (.Name slf r1) f2 r2] (.Name f2 r3) r4] scope .none kV doc pm an cdv ct) [slf, f1, f2] (spIni K C [f1, f2]) := by
  refine fn_of lk hcd S len_ini fun A outer s H vs Q E hr hsp => ?_
  obtain ⟨a, ys, rfl, hl, T, hno, ha, q⟩ := hsp
  obtain ⟨y, z, rfl⟩ : ∃ y z, ys = [y, z] := by
    match ys, hl with
    | [y, z], _ => exact ⟨y, z, rfl⟩
  refine ⟨_, pss_cons (ps_ost (pe_var (i := 0) rfl v1 d1 c1) (pe_var (i := 1) rfl v2 d2 c2)) (pss_cons (ps_ost (pe_var (i := 0) rfl v1 d1 c1) (pe_var (i := 2) rfl v3 d3 c3)) pss_nil), ?_⟩
  refine ⟨y, rfl, .ref a, rfl, a, C, rfl, T, hno f1 (by simp), .inl ⟨ha, fun dx hn hne => ?_⟩⟩
  refine ⟨z, rfl, .ref a, rfl, a, C, rfl, T, hno f2 (by simp), .inr ⟨dx, [(f1, y)], upd_same, ?_, by simp, ?_⟩⟩
  · rw [upd_ne hne, upd_same]
  · have e : upd (upd (upd H dx (exd dx [(f1, y)])) a (exo a C (some dx))) dx (exd dx [(f2, z), (f1, y)]) = upd (upd H dx (exd dx [(f2, z), (f1, y)])) a (exo a C (some dx)) := by
      funext b
      by_cases h1 : b = dx
      · subst h1
        rw [upd_same, upd_ne hne, upd_same]
      · by_cases h2 : b = a
        · subst h2
          rw [upd_ne h1, upd_same, upd_same]
        · rw [upd_ne h1, upd_ne h2, upd_ne h1, upd_ne h2, upd_ne h1]
    rw [e]
    exact q dx hn hne
end
/-- what a class says, of which an exception is asked -/
structure ClsF (K : PySem.W.Frag) (C : Addr) : Prop where
  ga : PySem.W.findIn K (.ref C) "__getattribute__" = some (some (.builtin "BaseException.__getattribute__"))
  gg : PySem.W.findIn K (.ref C) "__getattr__" = some none
  ex : PySem.W.subIn K (.ref C) (.type "BaseException") = some true
  hd : PySem.W.hasDictIn K C = true
  cl : PySem.W.isClsIn K C = true
  ca : PySem.W.findIn K (.ref C) "__class__" = some (some (.builtin "object.__class__"))
  cg : PySem.W.specialIn K (.builtin "object.__class__") "__get__" = some (some (.builtin "getset_descriptor.__get__"))
  ct : PySem.W.takesIn K (.builtin "object.__class__") = some true
  mo : PySem.W.mroIn K C (.type "object") = some true
/-- isinstance(e, c), e the caught exception, with or without a dict -/
def rIsX (K : PySem.W.Frag) (D a : Addr) (dd : Option Addr) : List V → Hp → VK → Prop := fun xs H Q => ∃ (c : V) (cv : Value) (b : Bool), xs = [.ref a, c] ∧ (∀ u, RelV c u → u = cv) ∧ PySem.W.kitOne K (.ref D) cv = some b ∧ (∀ d, dd = some d → ∃ fs, H d = some (.xd fs)) ∧ Q (.bl b) H
theorem call_isX {X : Cx} {a D : Addr} {dd : Option Addr} {oe : Obj} {pn : List (Addr × Obj)} (C : ClsF X.K D) (hz : Zc (.ref D) dd oe) (hf : ∃ vs, oe.data = .fields vs) : CallR (X.suite a ((a, oe) :: pn)) (.builtin "isinstance") (rIsX X.K D a dd) := by
  intro pins s σ H xs us Q I r h
  obtain ⟨c, cv, b, rfl, hcv, e, hdd, q⟩ := h
  obtain ⟨u1, u2, rfl, r1, r2⟩ := vals2 r
  obtain rfl : u1 = Value.ref a := r1
  obtain rfl := hcv _ r2
  obtain ⟨hget, _⟩ := I.pin (a, oe) (List.mem_append.mpr (.inl List.mem_cons_self))
  obtain ⟨vs, hv⟩ := hf
  obtain ⟨od, hod⟩ : ∃ od : Option Obj, PySem.W.InstAt s.heap a oe D od := by
    cases dd with
    | none =>
      obtain ⟨oc, ed, oda, osl⟩ := oe
      obtain ⟨h1, h2⟩ := hz
      dsimp only at h1 h2 hv
      subst h1 h2 hv
      exact ⟨none, hget, rfl, rfl, trivial⟩
    | some d =>
      obtain ⟨fs, hd⟩ := hdd d rfl
      obtain ⟨mA, hns, _⟩ := (show ObjOk X.prog X.w H s.heap d (.xd fs) from I.hok d _ hd)
      obtain ⟨od, ho, _⟩ := lookIn_ns hns
      exact ⟨some od, hget, hz.1, by unfold PySem.W.notCls; rw [hv] <;> rfl, by rw [hz.2]; exact ho⟩
  exact PySem.W.kia_one (PySem.W.kitx_exc C.cl C.ga C.gg C.ex C.ca C.cg C.ct C.mo) I.kIn hod e (fun z => nomatch z) fun tk => ⟨.bl b, H, I.kept (t' := tk) fun _ _ z => z, rfl, q⟩
/-! ### a def that is handed the handled exception -/
/-- only new cells -/
inductive Grw (H : Hp) : Hp → Prop where
  | refl : Grw H H
  | tup {H1 : Hp} {p : Addr} {cs : List V} : Grw H H1 → H1 p = none → Grw H (upd H1 p (.tup cs))
/-- the def f, handed the handled exception, of class C, tells b -/
structure FnZ (P : Program) (w : World) (K : PySem.W.Frag) (mg : Str → Option Value) (base : Heap) (l : Nat) (f : Addr) (fd : FuncData) (y : Str) (C : Addr) (b : Bool) : Prop where
  run : ∀ (A : Around) (outer : List Env) (s : Shared) (H : Hp) (args : Args) (p : Addr × Obj) (dd : Option Addr) (Q : VK), L2H.RoomH l A → A.handled = some (.ref p.1) → L2H.PinOk outer H s p → (∃ vs, p.2.data = .fields vs) → Zc (.ref C) dd p.2 → (∀ d, dd = some d → ∃ fs, H d = some (.xd fs)) →
    Env0 P w K mg base A outer s H → BindsTo s fd args [(y, .ref p.1)] → (∀ H', Grw H H' → Q (.bl b) H') →
    codeAny (model P w) A (.call (.ref f) args) (CR (fun _ _ _ _ _ _ => False) outer P w H s Q (fun _ _ _ => False)) s
/-- f(e), e of class c, tells b -/
def XfX (P : Program) (w : World) (K : PySem.W.Frag) (mg : Str → Option Value) (base : Heap) (f c : Str) (b : Bool) : Prop :=
  ∃ (a : Addr) (fd : FuncData) (y : Str) (C : Addr), mg f = some (.ref a) ∧ PySem.W.keepIn K (.ref a) = true ∧ Binds K fd [y] [] ∧ mg c = some (.ref C) ∧ FnZ P w K mg base 1 a fd y C b
/-- isinstance(e, (c1, ..)), e the caught exception -/
def rIsXT (K : PySem.W.Frag) (D a : Addr) (dd : Option Addr) : List V → Hp → VK → Prop := fun xs H Q => ∃ (tp : Addr) (cs : List V) (us : List Value) (b : Bool), xs = [.ref a, .ref tp] ∧ H tp = some (.tup cs) ∧ Paired ClsV cs us ∧ PySem.W.kitAny K (.ref D) us = some b ∧ (∀ d, dd = some d → ∃ fs, H d = some (.xd fs)) ∧ Q (.bl b) H
theorem call_isXT {X : Cx} {a D : Addr} {dd : Option Addr} {oe : Obj} {pn : List (Addr × Obj)} (C : ClsF X.K D) (hz : Zc (.ref D) dd oe) (hf : ∃ vs, oe.data = .fields vs) : CallR (X.suite a ((a, oe) :: pn)) (.builtin "isinstance") (rIsXT X.K D a dd) := by
  intro pins s σ H xs us Q I r h
  obtain ⟨tp, cs, ws, b, rfl, hT, hcv, e, hdd, q⟩ := h
  obtain ⟨u1, u2, rfl, r1, r2⟩ := vals2 r
  obtain rfl : u1 = Value.ref a := r1
  obtain rfl : u2 = Value.ref tp := r2
  obtain ⟨_, its, rv, o, h1, h2, n, h3⟩ := (show ObjOk X.prog X.w H s.heap tp (.tup cs) from I.hok tp _ hT)
  have e3 := ClsV.all hcv rv
  subst e3
  obtain ⟨oc, od1, dt, sl⟩ := o
  simp only at h2 h3
  subst h2 h3
  obtain ⟨hget, _⟩ := I.pin (a, oe) (List.mem_append.mpr (.inl List.mem_cons_self))
  obtain ⟨vs, hv⟩ := hf
  obtain ⟨od, hod⟩ : ∃ od : Option Obj, PySem.W.InstAt s.heap a oe D od := by
    cases dd with
    | none =>
      obtain ⟨oc, ed, oda, osl⟩ := oe
      obtain ⟨h1, h2⟩ := hz
      dsimp only at h1 h2 hv
      subst h1 h2 hv
      exact ⟨none, hget, rfl, rfl, trivial⟩
    | some d =>
      obtain ⟨fs, hd⟩ := hdd d rfl
      obtain ⟨mA, hns, _⟩ := (show ObjOk X.prog X.w H s.heap d (.xd fs) from I.hok d _ hd)
      obtain ⟨od, ho, _⟩ := lookIn_ns hns
      exact ⟨some od, hget, hz.1, by unfold PySem.W.notCls; rw [hv] <;> rfl, by rw [hz.2]; exact ho⟩
  exact PySem.W.kia_tup (PySem.W.kitx_exc C.cl C.ga C.gg C.ex C.ca C.cg C.ct C.mo) I.kIn hod h1 e (fun z => nomatch z) fun tk => ⟨.bl b, H, I.kept (t' := tk) fun _ _ z => z, rfl, q⟩
end MI
/-! MI2: contexts, and what a construct's reading follows from. -/
namespace MI
open PySem PySem.Spec PyProof.Rows L2

/-! ### small facts of representation -/
section
variable {K : PySem.W.Frag} {H H0 H' H0' : Hp} {m m' : List Addr} {μ : Mem}
theorem repT_ts : ∀ {ts : List T} {vs : List V}, repTs K H ts vs ↔ reps K H m (ts.map D.t) vs
  | [], _ => by simp only [repTs, reps, List.map_nil]
  | t :: ts, vs => by
    simp only [repTs, reps, List.map_cons, rep]
    constructor
    · rintro ⟨v, r, e, h1, h2⟩
      exact ⟨v, r, e, h1, repT_ts.mp h2⟩
    · rintro ⟨v, r, e, h1, h2⟩
      exact ⟨v, r, e, h1, repT_ts.mpr h2⟩
theorem toTs_map : ∀ {ds : List D} {ts : List T}, toTs ds = some ts → ds = ts.map D.t
  | [], ts, h => by
    simp only [toTs, Option.some.injEq] at h
    subst h; rfl
  | .t x :: ds, ts, h => by
    simp only [toTs, Option.map_eq_some_iff] at h
    obtain ⟨r, h1, h2⟩ := h
    subst h2
    rw [List.map_cons, ← toTs_map h1]
  | .ref _ :: ds, ts, h => by simp [toTs] at h
  | .tp _ :: ds, ts, h => by simp [toTs] at h
theorem toTs_of (ts : List T) : toTs (ts.map D.t) = some ts := by
  induction ts with
  | nil => rfl
  | cons t ts ih => simp [toTs, ih]
theorem reps_len : ∀ {ds : List D} {vs : List V}, reps K H m ds vs → ds.length = vs.length
  | [], _, h => by
    simp only [reps] at h
    subst h; rfl
  | d :: ds, _, h => by
    simp only [reps] at h
    obtain ⟨v, r, rfl, _, h2⟩ := h
    simp [reps_len h2]
theorem reps_get : ∀ {ds : List D} {vs : List V} {i : Nat} {d : D}, reps K H m ds vs → ds[i]? = some d → ∃ v, vs[i]? = some v ∧ rep K H m d v
  | [], _, _, _, _, e => by simp at e
  | x :: ds, _, 0, d, h, e => by
    simp only [reps] at h
    obtain ⟨v, r, rfl, h1, h2⟩ := h
    simp only [List.getElem?_cons_zero, Option.some.injEq] at e
    subst e
    exact ⟨v, rfl, h1⟩
  | x :: ds, _, i + 1, d, h, e => by
    simp only [reps] at h
    obtain ⟨v, r, rfl, h1, h2⟩ := h
    simp only [List.getElem?_cons_succ] at e ⊢
    exact reps_get h2 e
theorem reps_append : ∀ {ds es : List D} {vs ws : List V}, reps K H m ds vs → reps K H m es ws → reps K H m (ds ++ es) (vs ++ ws)
  | [], _, _, _, h, g => by
    simp only [reps] at h
    subst h; exact g
  | d :: ds, es, _, ws, h, g => by
    simp only [reps] at h
    obtain ⟨v, r, rfl, h1, h2⟩ := h
    simp only [List.cons_append, reps]
    exact ⟨v, r ++ ws, rfl, h1, reps_append h2 g⟩
theorem reps_drop : ∀ {ds : List D} {vs : List V} (n : Nat), reps K H m ds vs → reps K H m (ds.drop n) (vs.drop n)
  | _, _, 0, h => h
  | [], _, n + 1, h => by
    simp only [reps] at h
    subst h
    simp [reps]
  | d :: ds, _, n + 1, h => by
    simp only [reps] at h
    obtain ⟨v, r, rfl, h1, h2⟩ := h
    exact reps_drop n h2
theorem reps_take : ∀ {ds : List D} {vs : List V} (n : Nat), reps K H m ds vs → reps K H m (ds.take n) (vs.take n)
  | _, _, 0, h => by simp [reps]
  | [], _, n + 1, h => by
    simp only [reps] at h
    subst h
    simp [reps]
  | d :: ds, _, n + 1, h => by
    simp only [reps] at h
    obtain ⟨v, r, rfl, h1, h2⟩ := h
    simp only [List.take_succ_cons, reps]
    exact ⟨v, r.take n, rfl, h1, reps_take n h2⟩
theorem reps_set : ∀ {ds : List D} {vs : List V} (i : Nat) {d : D} {v : V}, reps K H m ds vs → rep K H m d v → reps K H m (ds.set i d) (vs.set i v)
  | [], _, i, _, _, h, _ => by
    simp only [reps] at h
    subst h
    simp [reps]
  | x :: ds, _, 0, d, v, h, g => by
    simp only [reps] at h
    obtain ⟨w, r, rfl, h1, h2⟩ := h
    simp only [List.set_cons_zero, reps]
    exact ⟨v, r, rfl, g, h2⟩
  | x :: ds, _, i + 1, d, v, h, g => by
    simp only [reps] at h
    obtain ⟨w, r, rfl, h1, h2⟩ := h
    simp only [List.set_cons_succ, reps]
    exact ⟨w, r.set i v, rfl, h1, reps_set i h2 g⟩
theorem reps_reverse : ∀ {ds : List D} {vs : List V}, reps K H m ds vs → reps K H m ds.reverse vs.reverse
  | [], _, h => by
    simp only [reps] at h
    subst h
    simp [reps]
  | d :: ds, _, h => by
    simp only [reps] at h
    obtain ⟨v, r, rfl, h1, h2⟩ := h
    simp only [List.reverse_cons]
    exact reps_append (reps_reverse h2) (by simp only [reps]; exact ⟨v, [], rfl, h1, rfl⟩)
theorem reps_ints : ∀ {ds : List D} {vs : List V} {ns : List Int}, reps K H m ds vs → toIs ds = some ns → vs = ns.map V.int
  | [], _, ns, h, e => by
    simp only [reps] at h
    simp only [toIs, Option.some.injEq] at e
    subst h; subst e; rfl
  | .t (.int i) :: ds, _, ns, h, e => by
    simp only [reps, rep, repT] at h
    obtain ⟨v, r, rfl, rfl, h2⟩ := h
    simp only [toIs, Option.map_eq_some_iff] at e
    obtain ⟨q, e1, e2⟩ := e
    subst e2
    rw [reps_ints h2 e1, List.map_cons]
  | .t .non :: ds, _, ns, h, e => by simp [toIs] at e
  | .t (.bl _) :: ds, _, ns, h, e => by simp [toIs] at e
  | .t (.str _) :: ds, _, ns, h, e => by simp [toIs] at e
  | .t (.lst _) :: ds, _, ns, h, e => by simp [toIs] at e
  | .t (.tup _) :: ds, _, ns, h, e => by simp [toIs] at e
  | .t (.dct _) :: ds, _, ns, h, e => by simp [toIs] at e
  | .t (.dcT _) :: ds, _, ns, h, e => by simp [toIs] at e
  | .t (.scr _) :: ds, _, ns, h, e => by simp [toIs] at e
  | .ref _ :: ds, _, ns, h, e => by simp [toIs] at e
  | .tp _ :: ds, _, ns, h, e => by simp [toIs] at e
theorem reps_bls : ∀ {ds : List D} {vs : List V} {ns : List Bool}, reps K H m ds vs → toBs ds = some ns → vs = ns.map V.bl
  | [], _, ns, h, e => by
    simp only [reps] at h
    simp only [toBs, Option.some.injEq] at e
    subst h; subst e; rfl
  | .t (.bl i) :: ds, _, ns, h, e => by
    simp only [reps, rep, repT] at h
    obtain ⟨v, r, rfl, rfl, h2⟩ := h
    simp only [toBs, Option.map_eq_some_iff] at e
    obtain ⟨q, e1, e2⟩ := e
    subst e2
    rw [reps_bls h2 e1, List.map_cons]
  | .t .non :: ds, _, ns, h, e => by simp [toBs] at e
  | .t (.int _) :: ds, _, ns, h, e => by simp [toBs] at e
  | .t (.str _) :: ds, _, ns, h, e => by simp [toBs] at e
  | .t (.lst _) :: ds, _, ns, h, e => by simp [toBs] at e
  | .t (.tup _) :: ds, _, ns, h, e => by simp [toBs] at e
  | .t (.dct _) :: ds, _, ns, h, e => by simp [toBs] at e
  | .t (.dcT _) :: ds, _, ns, h, e => by simp [toBs] at e
  | .t (.scr _) :: ds, _, ns, h, e => by simp [toBs] at e
  | .ref _ :: ds, _, ns, h, e => by simp [toBs] at e
  | .tp _ :: ds, _, ns, h, e => by simp [toBs] at e
theorem reps_of_ints : ∀ (ns : List Int), reps K H m (ns.map fun n => D.t (.int n)) (ns.map V.int)
  | [] => by simp [reps]
  | n :: ns => by
    simp only [List.map_cons, reps]
    exact ⟨_, _, rfl, by simp only [rep, repT], reps_of_ints ns⟩
theorem toI_some {d : D} {i : Int} (h : toI d = some i) : d = .t (.int i) := by
  unfold toI at h
  split at h
  · cases h; rfl
  · cases h

/-! ### what stands there -/
theorem RelM.ref (rm : RelM K H H0 m μ) {c : Nat} {a : Addr} {cl : Cell} (h1 : m[c]? = some a) (h2 : μ[c]? = some cl) : CellOk K H H0 m a cl := rm.cell c a cl h1 h2
theorem RelM.lst (rm : RelM K H H0 m μ) {d : D} {v : V} {ds : List D} (r : rep K H0 m d v) (h : lstOf μ d = some ds) : ∃ a vs, v = .ref a ∧ SqL K H a vs ∧ reps K H0 m ds vs := by
  unfold lstOf at h
  split at h
  · cases h
    simp only [rep, repT] at r
    obtain ⟨a, vs, e, h1, h2⟩ := r
    exact ⟨a, vs, e, .of (rm.same _ _ h1), repT_ts.mp h2⟩
  · cases h
    simp only [rep, repT] at r
    obtain ⟨a, e, h1⟩ := r
    exact ⟨a, _, e, rm.same.seq h1, reps_of_ints _⟩
  · rename_i c
    simp only [rep] at r
    obtain ⟨a, h1, e⟩ := r
    split at h
    · rename_i ds' h2
      cases h
      obtain ⟨_, vs, h3, h4⟩ := rm.ref h1 h2
      exact ⟨a, vs, e, .of h3, h4⟩
    · cases h
  · cases h
theorem RelM.lstN (rm : RelM K H H0 m μ) {d : D} {v : V} {ds : List D} (r : rep K H0 m d v) (h : lstN μ d = some ds) : ∃ a vs, v = .ref a ∧ H a = some (.lst vs) ∧ reps K H0 m ds vs := by
  unfold MI.lstN at h
  split at h
  · cases h
  · rename_i hn
    unfold lstOf at h
    split at h
    · cases h
      simp only [rep, repT] at r
      obtain ⟨a, vs, e, h1, h2⟩ := r
      exact ⟨a, vs, e, rm.same _ _ h1, repT_ts.mp h2⟩
    · exact absurd rfl (hn _)
    · rename_i c
      simp only [rep] at r
      obtain ⟨a, h1, e⟩ := r
      split at h
      · rename_i ds' h2
        cases h
        obtain ⟨_, vs, h3, h4⟩ := rm.ref h1 h2
        exact ⟨a, vs, e, h3, h4⟩
      · cases h
    · cases h
theorem RelM.tup (rm : RelM K H H0 m μ) {d : D} {v : V} {ds : List D} (r : rep K H0 m d v) (h : tupOf d = some ds) : ∃ a vs, v = .ref a ∧ H a = some (.tup vs) ∧ reps K H0 m ds vs := by
  unfold tupOf at h
  split at h
  · cases h
    simp only [rep, repT] at r
    obtain ⟨a, vs, e, h1, h2⟩ := r
    exact ⟨a, vs, e, rm.same _ _ h1, repT_ts.mp h2⟩
  · cases h
    simp only [rep] at r
    obtain ⟨a, vs, e, h1, h2⟩ := r
    exact ⟨a, vs, e, rm.same _ _ h1, h2⟩
  · cases h
theorem repK_map : ∀ {kts : List (Key × T)} {kvs : List (Key × V)}, repTK K H kts kvs → repK K H m (kts.map fun p => (p.1, D.t p.2)) kvs
  | [], _, h => by
    simp only [repTK] at h
    simpa only [List.map_nil, repK] using h
  | (k, t) :: r, _, h => by
    simp only [repTK] at h
    obtain ⟨v, q, e, h1, h2⟩ := h
    simp only [List.map_cons, repK, rep]
    exact ⟨v, q, e, h1, repK_map h2⟩
theorem repKT_map : ∀ {kts : List (List Key × T)} {kvs : List (List Key × V)}, repTKT K H kts kvs → repK K H m (kts.map fun p => (p.1, D.t p.2)) kvs
  | [], _, h => by
    simp only [repTKT] at h
    simpa only [List.map_nil, repK] using h
  | (k, t) :: r, _, h => by
    simp only [repTKT] at h
    obtain ⟨v, q, e, h1, h2⟩ := h
    simp only [List.map_cons, repK, rep]
    exact ⟨v, q, e, h1, repKT_map h2⟩
theorem RelM.dct (rm : RelM K H H0 m μ) {d : D} {v : V} {ds : List (Key × D)} (r : rep K H0 m d v) (h : dctOf μ d = some ds) : ∃ a kvs, v = .ref a ∧ H a = some (.dK kvs) ∧ repK K H0 m ds kvs := by
  unfold dctOf at h
  split at h
  · cases h
    simp only [rep, repT] at r
    obtain ⟨a, vs, e, h1, h2⟩ := r
    exact ⟨a, vs, e, rm.same _ _ h1, repK_map h2⟩
  · simp only [rep] at r
    obtain ⟨a, h1, e⟩ := r
    split at h
    · rename_i ds' h2
      cases h
      obtain ⟨_, vs, h3, h4⟩ := rm.ref h1 h2
      exact ⟨a, vs, e, h3, h4⟩
    · cases h
  · cases h
theorem RelM.dctT (rm : RelM K H H0 m μ) {d : D} {v : V} {ds : List (List Key × D)} (r : rep K H0 m d v) (h : dctTOf μ d = some ds) : ∃ a kvs, v = .ref a ∧ H a = some (.dT kvs) ∧ repK K H0 m ds kvs := by
  unfold dctTOf at h
  split at h
  · cases h
    simp only [rep, repT] at r
    obtain ⟨a, vs, e, h1, h2⟩ := r
    exact ⟨a, vs, e, rm.same _ _ h1, repKT_map h2⟩
  · simp only [rep] at r
    obtain ⟨a, h1, e⟩ := r
    split at h
    · rename_i ds' h2
      cases h
      obtain ⟨_, vs, h3, h4⟩ := rm.ref h1 h2
      exact ⟨a, vs, e, h3, h4⟩
    · cases h
  · cases h
theorem repK_get {κ : Type} [DecidableEq κ] : ∀ {kds : List (κ × D)} {kvs : List (κ × V)} {k : κ}, repK K H m kds kvs →
    (match getK kds k with | some d => ∃ v, valV kvs k = some v ∧ rep K H m d v | none => valV kvs k = none)
  | [], _, k, h => by
    simp only [repK] at h
    subst h
    rfl
  | (j, d) :: r, _, k, h => by
    simp only [repK] at h
    obtain ⟨v, q, rfl, h1, h2⟩ := h
    by_cases hk : j = k
    · have e : getK ((j, d) :: r) k = some d := by simp [getK, hk]
      rw [e, valV_pos (p := (j, v)) hk]
      exact ⟨v, rfl, h1⟩
    · have e : getK ((j, d) :: r) k = getK r k := by simp [getK, hk]
      rw [e, valV_neg (p := (j, v)) hk]
      exact repK_get h2
theorem repK_any {κ : Type} [DecidableEq κ] {k : κ} : ∀ {kds : List (κ × D)} {kvs : List (κ × V)}, repK K H m kds kvs → (kds.any fun kd => decide (kd.1 = k)) = (kvs.any fun kd => decide (kd.1 = k))
  | [], _, h => by
    simp only [repK] at h
    subst h
    rfl
  | (j, d) :: r, _, h => by
    simp only [repK] at h
    obtain ⟨v, q, rfl, h1, h2⟩ := h
    simp only [List.any_cons, repK_any h2]
theorem repK_append {κ : Type} : ∀ {kds kes : List (κ × D)} {kvs kws : List (κ × V)}, repK K H m kds kvs → repK K H m kes kws → repK K H m (kds ++ kes) (kvs ++ kws)
  | [], _, _, _, h, g => by
    simp only [repK] at h
    subst h
    exact g
  | (j, d) :: r, _, _, kws, h, g => by
    simp only [repK] at h
    obtain ⟨v, q, rfl, h1, h2⟩ := h
    simp only [List.cons_append, repK]
    exact ⟨v, q ++ kws, rfl, h1, repK_append h2 g⟩
theorem repK_subst {κ : Type} [DecidableEq κ] {k : κ} {d : D} {v : V} (g : rep K H m d v) : ∀ {kds : List (κ × D)} {kvs : List (κ × V)}, repK K H m kds kvs →
    repK K H m (kds.map (fun kd => if kd.1 = k then (kd.1, d) else kd)) (kvs.map (fun kd => if kd.1 = k then (kd.1, v) else kd))
  | [], _, h => by
    simp only [repK] at h
    subst h
    simp [repK]
  | (j, e) :: r, _, h => by
    simp only [repK] at h
    obtain ⟨w, q, rfl, h1, h2⟩ := h
    simp only [List.map_cons]
    by_cases hk : j = k
    · simp only [hk, if_true, repK]
      exact ⟨v, _, rfl, g, repK_subst g h2⟩
    · simp only [hk, if_false, repK]
      exact ⟨w, _, rfl, h1, repK_subst g h2⟩
theorem repK_put {κ : Type} [DecidableEq κ] {kds : List (κ × D)} {kvs : List (κ × V)} {k : κ} {d : D} {v : V} (h : repK K H m kds kvs) (g : rep K H m d v) : repK K H m (MI.putK kds k d) (L2.putK kvs k v) := by
  unfold MI.putK L2.putK
  rw [repK_any h]
  split
  · exact repK_subst g h
  · refine repK_append h ?_
    simp only [repK]
    exact ⟨v, [], rfl, g, rfl⟩
theorem repK_len {κ : Type} : ∀ {kds : List (κ × D)} {kvs : List (κ × V)}, repK K H m kds kvs → kds.length = kvs.length
  | [], _, h => by
    simp only [repK] at h
    subst h
    rfl
  | (j, d) :: r, _, h => by
    simp only [repK] at h
    obtain ⟨v, q, rfl, h1, h2⟩ := h
    simp [repK_len h2]
theorem repK_keys {κ : Type} : ∀ {kds : List (κ × D)} {kvs : List (κ × V)}, repK K H m kds kvs → kds.map (·.1) = kvs.map (·.1)
  | [], _, h => by
    simp only [repK] at h
    subst h
    rfl
  | (j, d) :: r, _, h => by
    simp only [repK] at h
    obtain ⟨v, q, rfl, h1, h2⟩ := h
    simp [repK_keys h2]

/-! ### new objects -/
theorem Same.upd {o : HO} {p : Addr} (h : H p = none) : Same H (upd H p o) := fun b x e => by
  rw [upd_ne (ne_of_none e h)]
  exact e
theorem Same.upd2 (s : Same H0 H) {o : HO} {p : Addr} (h : H p = none) : Same (L2.upd H0 p o) (L2.upd H p o) := fun b x e => by
  by_cases hb : b = p
  · subst hb
    rw [upd_same] at e ⊢
    exact e
  · rw [upd_ne hb] at e ⊢
    exact s b x e
theorem RelM.notin (rm : RelM K H H0 m μ) {p : Addr} (h : H p = none) : p ∉ m := fun hm => rm.ne p hm h
theorem CellOk.mono {a : Addr} {cl : Cell} (h : CellOk K H H0 m a cl) (s : Same H0 H0') (p : ∀ (c : Nat) (a : Addr), m[c]? = some a → m'[c]? = some a) (hH : ∀ o, H a = some o → H' a = some o) (h0 : H0 a = none → H0' a = none) : CellOk K H' H0' m' a cl := by
  cases cl with
  | dead => trivial
  | lst ds => obtain ⟨h1, vs, h2, h3⟩ := h; exact ⟨h0 h1, vs, hH _ h2, h3.mono s p⟩
  | dct ds => obtain ⟨h1, vs, h2, h3⟩ := h; exact ⟨h0 h1, vs, hH _ h2, h3.mono s p⟩
  | dcT ds => obtain ⟨h1, vs, h2, h3⟩ := h; exact ⟨h0 h1, vs, hH _ h2, h3.mono s p⟩
  | exn fts => obtain ⟨h1, C, dx, fvs, h2, h3, h4, h5, h6⟩ := h; exact ⟨h0 h1, C, dx, fvs, hH _ h2, s _ _ h3, repF.mono s h4, h5, h6⟩
/-- something new, not told -/
theorem RelM.newU (rm : RelM K H H0 m μ) {o : HO} {p : Addr} (h : H p = none) : RelM K (L2.upd H p o) H0 m μ := by
  refine ⟨fun b x e => Same.upd h b x (rm.same b x e), rm.len, rm.nd, fun a ha => ?_, fun c a cl h1 h2 => ?_⟩
  · by_cases e : a = p
    · subst e; rw [upd_same]; exact fun z => by cases z
    · rw [upd_ne e]; exact rm.ne a ha
  · exact (rm.cell c a cl h1 h2).mono (Same.refl _) (fun _ _ z => z) (fun o e => Same.upd h a o e) (fun z => z)
theorem Step.newU {o : HO} {p : Addr} (h : H p = none) : Step H H0 m (L2.upd H p o) H0 m :=
  ⟨Same.refl _, ⟨[], by simp⟩, fun _ h => .inl h, fun b o e _ => Same.upd h b o e, fun _ h => .inl h⟩
/-- something new and frozen -/
theorem RelM.newF (rm : RelM K H H0 m μ) {o : HO} {p : Addr} (h : H p = none) : RelM K (L2.upd H p o) (L2.upd H0 p o) m μ := by
  have h0 : H0 p = none := rm.same.free h
  refine ⟨Same.upd2 rm.same h, rm.len, rm.nd, (rm.newU h).ne, fun c a cl h1 h2 => ?_⟩
  have hp : a ≠ p := fun e => rm.notin h (by rw [← e]; exact List.mem_of_getElem? h1)
  exact (rm.cell c a cl h1 h2).mono (Same.upd h0) (fun _ _ z => z) (fun o e => Same.upd h a o e) (fun z => by rw [upd_ne hp]; exact z)
theorem Step.newF (s : Same H0 H) {o : HO} {p : Addr} (h : H p = none) : Step H H0 m (L2.upd H p o) (L2.upd H0 p o) m := by
  have h0 : H0 p = none := s.free h
  refine ⟨Same.upd h0, ⟨[], by simp⟩, fun _ h => .inl h, fun b o e _ => Same.upd h b o e, fun a ha => ?_⟩
  by_cases e : a = p
  · subst e; exact .inr (.inr h)
  · rw [upd_ne e] at ha; exact .inl ha
/-- a new cell -/
theorem RelM.newC (rm : RelM K H H0 m μ) {o : HO} {p : Addr} {cl : Cell} (h : H p = none) (hc : CellOk K (L2.upd H p o) H0 (m ++ [p]) p cl) : RelM K (L2.upd H p o) H0 (m ++ [p]) (μ ++ [cl]) := by
  have hn := rm.notin h
  refine ⟨(rm.newU h).same, by simp [rm.len], ?_, fun a ha => ?_, fun c a cl' h1 h2 => ?_⟩
  · rw [List.nodup_append]
    exact ⟨rm.nd, by simp, fun a ha b hb => by
      have e : b = p := by simpa using hb
      rintro rfl
      exact hn (by rw [← e]; exact ha)⟩
  · rcases List.mem_append.mp ha with ha | ha
    · exact (rm.newU h).ne a ha
    · have e : a = p := by simpa using ha
      subst e; rw [upd_same]; exact fun z => by cases z
  · by_cases hl : c < m.length
    · rw [List.getElem?_append_left hl] at h1
      rw [List.getElem?_append_left (by rw [← rm.len]; exact hl)] at h2
      have hp : a ≠ p := fun e => hn (by rw [← e]; exact List.mem_of_getElem? h1)
      refine (rm.cell c a cl' h1 h2).mono (Same.refl _) (fun c' a' z => ?_) (fun o e => Same.upd h a o e) (fun z => z)
      rw [List.getElem?_append_left (List.getElem?_eq_some_iff.mp z).1]
      exact z
    · rw [List.getElem?_append_right (by omega)] at h1
      rw [List.getElem?_append_right (by rw [← rm.len]; omega)] at h2
      have e : c - m.length = 0 := by
        by_cases z : c - m.length = 0
        · exact z
        · rw [List.getElem?_eq_none (by simp; omega)] at h1; cases h1
      rw [e] at h1
      rw [← rm.len, e] at h2
      simp only [List.getElem?_cons_zero, Option.some.injEq] at h1 h2
      subst h1; subst h2
      exact hc
theorem Step.newC {o : HO} {p : Addr} (h : H p = none) : Step H H0 m (L2.upd H p o) H0 (m ++ [p]) :=
  ⟨Same.refl _, ⟨[p], rfl⟩, fun a ha => by
    rcases List.mem_append.mp ha with ha | ha
    · exact .inl ha
    · have e : a = p := by simpa using ha
      subst e; exact .inr h, fun b o e _ => Same.upd h b o e, fun _ h => .inl h⟩
/-- a cell is changed -/
theorem RelM.setC (rm : RelM K H H0 m μ) {o : HO} {p : Addr} {c : Nat} {cl : Cell} (h : m[c]? = some p) (h0 : H0 p = none) (hc : CellOk K (L2.upd H p o) H0 m p cl) : RelM K (L2.upd H p o) H0 m (μ.set c cl) := by
  refine ⟨fun b x e => ?_, by simp [rm.len], rm.nd, fun a ha => ?_, fun c' a cl' h1 h2 => ?_⟩
  · have : b ≠ p := fun z => by subst z; rw [h0] at e; cases e
    rw [upd_ne this]; exact rm.same b x e
  · by_cases e : a = p
    · subst e; rw [upd_same]; exact fun z => by cases z
    · rw [upd_ne e]; exact rm.ne a ha
  · by_cases e : c' = c
    · subst e
      rw [h] at h1; cases h1
      have hl : c' < μ.length := by rw [← rm.len]; exact (List.getElem?_eq_some_iff.mp h).1
      rw [List.getElem?_set_self hl] at h2; cases h2
      exact hc
    · rw [List.getElem?_set_ne (Ne.symm e)] at h2
      have hp : a ≠ p := fun z => by
        subst z
        exact e (nodup_ix' rm.nd h1 h)
      exact (rm.cell c' a cl' h1 h2).mono (Same.refl _) (fun _ _ z => z) (fun o e => by rw [upd_ne hp]; exact e) (fun z => z)
where
  nodup_ix' {N : List Addr} (hN : N.Nodup) {i j : Nat} {x : Addr} (a : N[i]? = some x) (b : N[j]? = some x) : i = j := by
    obtain ⟨h1, e1⟩ := List.getElem?_eq_some_iff.mp a
    obtain ⟨h2, e2⟩ := List.getElem?_eq_some_iff.mp b
    exact (List.getElem_inj hN).mp (e1.trans e2.symm)
theorem Step.setC {o : HO} {p : Addr} {c : Nat} (h : m[c]? = some p) : Step H H0 m (L2.upd H p o) H0 m :=
  ⟨Same.refl _, ⟨[], by simp⟩, fun _ h => .inl h, fun b o e hn => by
    rw [upd_ne fun z => hn (by rw [z]; exact List.mem_of_getElem? h)]
    exact e, fun _ h => .inl h⟩
end

/-! ### the ends -/
/-- an exception as it lies -/
def ExOk (mg : Str → Option Value) (K : PySem.W.Frag) (H0 : Hp) (x : Exn) (cls : Value) (dd : Option Addr) : Prop :=
  ∃ C, mg x.cls = some (.ref C) ∧ cls = .ref C ∧ ((x.fs = [] ∧ dd = none) ∨ ∃ a fvs, dd = some a ∧ H0 a = some (.xd fvs) ∧ repF K H0 x.fs fvs)
def PostE (K : PySem.W.Frag) (Q : VK) (H H0 : Hp) (m : List Addr) : D → Mem → Prop := fun d μ' => ∀ v H' H0' m', RelM K H' H0' m' μ' → Step H H0 m H' H0' m' → rep K H0' m' d v → Q v H'
def PostX (mg : Str → Option Value) (K : PySem.W.Frag) (W : Value → Option Addr → Hp → Prop) (H H0 : Hp) (m : List Addr) : Exn → Mem → Prop := fun x μ' => ∀ cls dd H' H0' m', RelM K H' H0' m' μ' → Step H H0 m H' H0' m' → ExOk mg K H0' x cls dd → W cls dd H'
theorem PostX.later {mg : Str → Option Value} {K : PySem.W.Frag} {W : Value → Option Addr → Hp → Prop} {H H0 H1 H01 : Hp} {m m1 : List Addr} {x : Exn} {μ : Mem} (h : PostX mg K W H H0 m x μ) (s : Step H H0 m H1 H01 m1) : PostX mg K W H1 H01 m1 x μ :=
  fun cls dd H' H0' m' r s' e => h cls dd H' H0' m' r (s.trans s') e
theorem PostE.later {K : PySem.W.Frag} {Q : VK} {H H0 H1 H01 : Hp} {m m1 : List Addr} {d : D} {μ : Mem} (h : PostE K Q H H0 m d μ) (s : Step H H0 m H1 H01 m1) : PostE K Q H1 H01 m1 d μ :=
  fun v H' H0' m' r s' e => h v H' H0' m' r (s.trans s') e
/-- what a def promises -/
def spF (mg : Str → Option Value) (K : PySem.W.Frag) (F : Orac) (f : Nat) : Sp := fun vs H Q E => ∃ ds μ H0 m, RelM K H H0 m μ ∧ reps K H0 m ds vs ∧ Sat (F f ds μ) (PostE K Q H H0 m) (PostX mg K E H H0 m)
/-! exceptions whose context is None (false), or any (true) -/
def TakesB : Bool → Cx → WX → Prop
  | false, X, W => L2N.Takes X W
  | true, X, W => L2.Takes X W
def CXB : Bool → Program → World → CXT
  | false, P, w => L2N.CX P w
  | true, P, w => L2.CX P w
theorem traced_zc {h B : Heap} {a : Addr} {cls : Value} {d : Option Addr} {fl : Value} (x : HandSPX.TracedZ h B a (L2N.Zn cls d) fl) : HandSPX.TracedZ h B a (Zc cls d) fl := by
  obtain ⟨oe, vs, T, oT, ts, he, hz, r⟩ := x
  exact ⟨oe, vs, T, oT, ts, he, hz.zc, r⟩
theorem sky_zc {B h : Heap} {l : List Env} {a L : Addr} {cls : Value} {d : Option Addr} (x : Sky B l a (L2N.Zn cls d) L h) : Sky B l a (Zc cls d) L h := by
  rcases x with ⟨x1, x2, x3, oe, vs, he, hz, r⟩ | x | x
  · exact .inl ⟨x1, x2, x3, oe, vs, he, hz.zc, r⟩
  · exact .inr (.inl ⟨x.1, x.2.1, x.2.2.1, traced_zc x.2.2.2⟩)
  · exact .inr (.inr ⟨x.1, x.2.1, x.2.2.1, traced_zc x.2.2.2⟩)
theorem xe_zc {X : Cx} {W : WX} {u : Value} {s' : Shared} (x : L2N.XE X W u s') : L2.XE X W u s' := by
  obtain ⟨a, B, sI, pins, σ, H, cls, d, e, I, nb, up, sky, r⟩ := x
  exact ⟨a, B, sI, pins, σ, H, cls, d, e, I, nb, up, sky_zc sky, r⟩
theorem cx_zc {P : Program} {w : World} {outer : List Env} {H : Hp} {s : Shared} {E : XK} {u : Value} {s' : Shared} (x : L2N.CX P w outer H s E u s') : L2.CX P w outer H s E u s' := by
  obtain ⟨a, B, H', cls, d, e, fl, r⟩ := x
  exact ⟨a, B, H', cls, d, e, ⟨fl.1, fl.2.1, fl.2.2.1, traced_zc fl.2.2.2⟩, r⟩
theorem TakesB.n {b : Bool} {X : Cx} {W : WX} (t : TakesB b X W) : L2N.Takes X W := by
  cases b with
  | false => exact t
  | true => exact fun u s' x => t u s' (xe_zc x)
theorem TakesB.zero {b : Bool} {X : Cx} : TakesB b X (fun _ _ _ _ => False) := by
  cases b
  · exact fun _ _ ⟨_, _, _, _, _, _, _, _, _, _, _, _, _, _, _, _, w⟩ => w.elim
  · exact fun _ _ ⟨_, _, _, _, _, _, _, _, _, _, _, _, _, _, _, _, w⟩ => w.elim
theorem TakesB.passAt {b c : Bool} {X : Cx} {W : WX} (t : TakesB b X W) (h : c = true → b = true) (σ : L2.St) : PassesAt (CXB c X.prog X.w) X σ (WE W σ) := by
  cases c with
  | false => exact L2N.passAt t.n σ
  | true =>
    obtain rfl := h rfl
    exact L2.passAt t σ
structure CallOk (X : Cx) (F : Orac) (k f : Nat) (nm : Str) (wk : Bool) : Prop where
  ok : ∃ (a : Addr) (fd : FuncData) (ps : List Str) (c : Bool), (c = true → wk = true) ∧ X.mg nm = some (.ref a) ∧ PySem.W.keepIn X.K (.ref a) = true ∧ Binds X.K fd ps [] ∧ FnOk X.prog X.w X.K X.mg X.base (CXB c X.prog X.w) k a fd ps (spF X.mg X.K F f)
/-- a class of exceptions: its fields; whether it has an __init__ of its own -/
structure ClsI where
  nm : Str
  fs : List Str
  ini : Bool
structure Sig where
  fn : Nat → Option Str
  blts : List Str
  glo : List (Str × T)
  cls : List ClsI
  sub : List (Str × Str × Bool)
  xf : List (Str × Str × Bool) := []
  wk : Bool := false
  fns : Nat → Option Str := fun _ => none
def veL : List Value := [.type "ValueError", .type "Exception", .type "BaseException", .type "object"]
/-- what stands of such a class -/
def ClsX (P : Program) (w : World) (K : PySem.W.Frag) (mg : Str → Option Value) (base : Heap) (c : ClsI) : Prop :=
  ∃ C, mg c.nm = some (.ref C) ∧ ClsF K C ∧ (∀ f ∈ c.fs, PySem.W.findIn K (.ref C) f = some none) ∧
    if c.ini = true then OexC K C ∧ ∃ (fI : Addr) (fd : FuncData) (slf : Str), PySem.W.findIn K (.ref C) "__init__" = some (some (.ref fI)) ∧ PySem.W.typeIn K (.ref fI) = some (.type "function") ∧ Binds K fd (slf :: c.fs) [] ∧
      FnOk P w K mg base (L2N.CX P w) 1 fI fd (slf :: c.fs) (spIni K C c.fs)
    else PySem.W.excIn K C veL "ValueError.__new__" = true ∧ PySem.W.keepIn K (.ref C) = true ∧ PySem.W.typeIn K (.ref C) = some (.type "type")
/-- d, the class asked for, is the value V -/
def NmV (mg : Str → Option Value) (d : Str) (V : Value) : Prop := (mg d = some V ∧ ∃ C, V = .ref C) ∨ (mg d = none ∧ bootBuiltins d = some V ∧ d ≠ "__name__" ∧ ∃ n, V = .type n)
def SubX (K : PySem.W.Frag) (mg : Str → Option Value) (c d : Str) (b : Bool) : Prop := ∃ C V, mg c = some (.ref C) ∧ ClsF K C ∧ NmV mg d V ∧ PySem.W.exmOne K (.ref C) V = some b ∧ PySem.W.kitOne K (.ref C) V = some b
structure Gam extends Sig where
  F : Orac
def relG : T → Value → Prop
  | .non, u => u = .none
  | .bl b, u => u = .bool b
  | .int i, u => ∃ t, u = .int i t
  | .str x, u => ∃ t, u = .str x t
  | _, _ => False
/-- the names of a def or a block; cf: whose cells are its own -/
structure Sco extends Scope where
  cf : Str → Bool
  top : Bool
structure Gd (Γ : Gam) (k : Nat) (N : List Str) (sc : Sco) (X : Cx) (W : WX) : Prop where
  hN : X.N = N
  nd : N.Nodup
  hsc : X.env.scope = sc.toScope
  kind : sc.kind = .function
  calm : X.calm = true
  room : Room k X.A
  tk : TakesB Γ.wk X W
  po : PassesOwn (model X.prog X.w) X.A X.env X.xe
  fn : ∀ x, sc.cf x = true → X.fn x = true
  call : ∀ f nm, Γ.fn f = some nm → CallOk X Γ.F k f nm Γ.wk
  calls : ∀ f nm, Γ.fns f = some nm → CallOk X Γ.F k f nm false
  blt : ∀ x ∈ Γ.blts, X.mg x = none
  glo : ∀ x t, (x, t) ∈ Γ.glo → ∃ u, X.mg x = some u ∧ relG t u
  lev : 2 ≤ k
  cls : ∀ c ∈ Γ.cls, ClsX X.prog X.w X.K X.mg X.base c
  sub : ∀ c d b, (c, d, b) ∈ Γ.sub → SubX X.K X.mg c d b
  xf : ∀ f c b, (f, c, b) ∈ Γ.xf → XfX X.prog X.w X.K X.mg X.base f c b
  stk : sc.top = true → X.stack = X.env :: X.outer ∧ X.env.frame = some X.env.locals
  pa : sc.top = true → ∀ hd : Option Value, PassesOwnAt (model X.prog X.w) (X.A.mark hd) X.A X.env X.xe
/-- a reading t does what c says; ρ: how what c tells stands for what t tells -/
def AnsG {α β : Type} (ρ : PySem.W.Frag → Hp → List Addr → α → β → Prop) (X : Cx) (W : WX) (t : L2.St → Hp → (β → Hp → Prop) → Prop) (c : Envv → M α) : Prop := ∀ σ H env μ H0 m Q, RelM X.K H H0 m μ → EnvOk X.K H0 m env σ →
  Sat (c env μ) (fun a μ' => ∀ b H' H0' m', RelM X.K H' H0' m' μ' → Step H H0 m H' H0' m' → ρ X.K H0' m' a b → Q b H') (PostX X.mg X.K (fun a b => W a b σ) H H0 m) → t σ H Q
abbrev Ans (X : Cx) (W : WX) (t : TE) (c : Envv → M D) : Prop := AnsG rep X W t c
def eqR {α : Type} : PySem.W.Frag → Hp → List Addr → α → α → Prop := fun _ _ _ a b => a = b
structure VE (Γ : Gam) (k : Nat) (N : List Str) (sc : Sco) (x : Expr) (e : E) : Prop where
  run : ∀ X W, Gd Γ k N sc X W → ∃ t, PE X x t ∧ Ans X W t (evE Γ.F e)
theorem AnsG.bnd {α β γ : Type} {ρ : PySem.W.Frag → Hp → List Addr → α → β → Prop} {X : Cx} {W : WX} {t : L2.St → Hp → (β → Hp → Prop) → Prop} {c : Envv → M α} (ha : AnsG ρ X W t c) {σ : L2.St} {H H0 : Hp} {env : Envv} {μ : Mem} {m : List Addr} {f : α → M γ} {P : γ → Mem → Prop} {R : β → Hp → Prop}
    (rm : RelM X.K H H0 m μ) (en : EnvOk X.K H0 m env σ) (h : Sat (bnd (c env) f μ) P (PostX X.mg X.K (fun a b => W a b σ) H H0 m))
    (k : ∀ d μ1 v H1 H01 m1, RelM X.K H1 H01 m1 μ1 → Step H H0 m H1 H01 m1 → ρ X.K H01 m1 d v → EnvOk X.K H01 m1 env σ → Sat (f d μ1) P (PostX X.mg X.K (fun a b => W a b σ) H1 H01 m1) → R v H1) : t σ H R := by
  refine ha σ H env μ H0 m R rm en (Sat.mono (Sat.bnd h) (fun d μ1 q => ?_) fun x μ1 q => q)
  intro v H1 H01 m1 rm1 s1 r1
  exact k d μ1 v H1 H01 m1 rm1 s1 r1 (en.step s1) (q.mono (fun _ _ z => z) fun x μ2 z => z.later s1)
/-- a new list's reading -/
theorem mkL_ok {K : PySem.W.Frag} {H H0 : Hp} {m : List Addr} {μ : Mem} {fz : Bool} {ds : List D} {vs : List V} {Q : VK} {P : D → Mem → Prop} {E : Exn → Mem → Prop} (rm : RelM K H H0 m μ) (r : reps K H0 m ds vs) (h : Sat (mkL fz ds μ) P E)
    (hP : ∀ d μ, P d μ → PostE K Q H H0 m d μ) : ds.length ≤ sizeLine ∧ ∀ p, H p = none → Q (.ref p) (upd H p (.lst vs)) := by
  unfold mkL at h
  split at h
  · rename_i hz
    refine ⟨hz, fun p hp => ?_⟩
    cases fz with
    | true =>
      simp only at h
      split at h
      · rename_i ts e
        have h : P (.t (.lst ts)) μ := h
        have e := toTs_map e
        refine hP _ _ h (.ref p) _ (upd H0 p (.lst vs)) m (rm.newF hp) (Step.newF rm.same hp) ?_
        simp only [rep, repT]
        refine ⟨p, vs, rfl, upd_same, ?_⟩
        rw [repT_ts (m := m), ← e]
        exact r.mono (Same.upd (rm.same.free hp)) fun _ _ z => z
      · exact h.elim
    | false =>
      have h : P (.ref μ.length) (μ ++ [.lst ds]) := h
      refine hP _ _ h (.ref p) _ H0 (m ++ [p]) (rm.newC hp ⟨rm.same.free hp, vs, upd_same, r.mono (Same.refl _) fun c a z => ?_⟩) (Step.newC hp) ?_
      · rw [List.getElem?_append_left (List.getElem?_eq_some_iff.mp z).1]; exact z
      · simp only [rep]
        exact ⟨p, by rw [← rm.len]; simp, rfl⟩
  · exact h.elim
theorem mkTup_ok {K : PySem.W.Frag} {H H0 : Hp} {m : List Addr} {μ : Mem} {ds : List D} {vs : List V} {Q : VK} {P : D → Mem → Prop} {E : Exn → Mem → Prop} (rm : RelM K H H0 m μ) (r : reps K H0 m ds vs) (h : Sat (mkTup ds μ) P E)
    (hP : ∀ d μ, P d μ → PostE K Q H H0 m d μ) : ds.length ≤ sizeLine ∧ ∀ p, H p = none → Q (.ref p) (upd H p (.tup vs)) := by
  unfold mkTup at h
  split at h
  · rename_i hz
    refine ⟨hz, fun p hp => ?_⟩
    split at h
    · rename_i ts e
      have h : P (.t (.tup ts)) μ := h
      have e := toTs_map e
      refine hP _ _ h (.ref p) _ (upd H0 p (.tup vs)) m (rm.newF hp) (Step.newF rm.same hp) ?_
      simp only [rep, repT]
      refine ⟨p, vs, rfl, upd_same, ?_⟩
      rw [repT_ts (m := m), ← e]
      exact r.mono (Same.upd (rm.same.free hp)) fun _ _ z => z
    · have h : P (.tp ds) μ := h
      refine hP _ _ h (.ref p) _ (upd H0 p (.tup vs)) m (rm.newF hp) (Step.newF rm.same hp) ?_
      simp only [rep]
      exact ⟨p, vs, rfl, upd_same, r.mono (Same.upd (rm.same.free hp)) fun _ _ z => z⟩
  · exact h.elim
end MI
/-! MI3: operators. -/
namespace MI
open PySem PySem.Spec PyProof.Rows L2

/-- a two-place operation does what c says -/
def OpA (X : Cx) (f : Value → Value → Sem Value) (c : D → D → M D) : Prop := ∃ r, OpR X f r ∧ ∀ (x y : D) (v w : V) (H H0 : Hp) (m : List Addr) (μ : Mem) (Q : VK) (P : D → Mem → Prop) (E : Exn → Mem → Prop),
  RelM X.K H H0 m μ → rep X.K H0 m x v → rep X.K H0 m y w → Sat (c x y μ) P E → (∀ d μ, P d μ → PostE X.K Q H H0 m d μ) → r v w H Q
/-- the same memory, a scalar -/
theorem PostE.scal {K : PySem.W.Frag} {H H0 : Hp} {m : List Addr} {μ : Mem} {Q : VK} {d : D} {v : V} (rm : RelM K H H0 m μ) (h : PostE K Q H H0 m d μ) (r : rep K H0 m d v) : Q v H := h v H H0 m rm Step.refl r
theorem rep_int {K : PySem.W.Frag} {H : Hp} {m : List Addr} {i : Int} {v : V} : rep K H m (.t (.int i)) v ↔ v = .int i := by simp only [rep, repT]
theorem rep_bl {K : PySem.W.Frag} {H : Hp} {m : List Addr} {i : Bool} {v : V} : rep K H m (.t (.bl i)) v ↔ v = .bl i := by simp only [rep, repT]
theorem rep_str {K : PySem.W.Frag} {H : Hp} {m : List Addr} {i : Str} {v : V} : rep K H m (.t (.str i)) v ↔ v = .str i := by simp only [rep, repT]
theorem rep_non {K : PySem.W.Frag} {H : Hp} {m : List Addr} {v : V} : rep K H m (.t .non) v ↔ v = .non := by simp only [rep, repT]
section
variable {X : Cx}
theorem binI_of {op : Bop} {x y : D} {μ : Mem} {P : D → Mem → Prop} {E : Exn → Mem → Prop} (hn : op ≠ .add) (hm : op ≠ .mul) (h : Sat (binD op x y μ) P E) : ∃ i j k, x = .t (.int i) ∧ y = .t (.int j) ∧ binI op i j = some k ∧ P (.t (.int k)) μ := by
  unfold binD at h
  split at h
  · rename_i i j
    split at h
    · rename_i k e
      exact ⟨i, j, k, rfl, rfl, e, h⟩
    · exact h.elim
  · exfalso
    cases op <;> first | exact hn rfl | exact hm rfl | exact h
theorem opA_int {f : Value → Value → Sem Value} {op : Bop} {C : Int → Int → Prop} {g : Int → Int → Int} (hn : op ≠ .add) (hm : op ≠ .mul) (ho : OpR X f (rI C fun i j => .int (g i j))) (hb : ∀ i j k, binI op i j = some k → C i j ∧ k = g i j) : OpA X f (binD op) := by
  refine ⟨_, ho, fun x y v w H H0 m μ Q P E rm rx ry h hP => ?_⟩
  obtain ⟨i, j, k, rfl, rfl, e, q⟩ := binI_of hn hm h
  obtain ⟨c, rfl⟩ := hb _ _ _ e
  exact ⟨i, j, rep_int.mp rx, rep_int.mp ry, c, (hP _ _ q).scal rm (rep_int.mpr rfl)⟩
theorem opA_add : OpA X (binaryOp .Add) (binD .add) := by
  refine ⟨_, OpR.or op_add op_cat, fun x y v w H H0 m μ Q P E rm rx ry h hP => ?_⟩
  unfold binD at h
  split at h
  · rename_i i j
    simp only [binI] at h
    exact .inl ⟨i, j, rep_int.mp rx, rep_int.mp ry, (hP _ _ h).scal rm (rep_int.mpr rfl)⟩
  · simp only at h
    split at h
    · rename_i xs ys e1 e2
      obtain ⟨a, vs, rfl, h1, r1⟩ := rm.lstN rx e1
      obtain ⟨b, ws, rfl, h2, r2⟩ := rm.lstN ry e2
      obtain ⟨z, q⟩ := mkL_ok (Q := Q) rm (reps_append r1 r2) h hP
      refine .inr ⟨a, b, vs, ws, rfl, rfl, h1, h2, ?_, q⟩
      rw [List.length_append, reps_len r1, reps_len r2] at z
      exact z
    · exact h.elim
theorem opA_sub : OpA X (binaryOp .Sub) (binD .sub) := by
  refine ⟨_, op_sub, fun x y v w H H0 m μ Q P E rm rx ry h hP => ?_⟩
  obtain ⟨i, j, k, rfl, rfl, e, q⟩ := binI_of (by decide) (by decide) h
  simp only [binI, Option.some.injEq] at e
  subst e
  exact ⟨i, j, rep_int.mp rx, rep_int.mp ry, (hP _ _ q).scal rm (rep_int.mpr rfl)⟩
theorem reps_rep {K : PySem.W.Frag} {H : Hp} {m : List Addr} {ds : List D} {vs : List V} (r : reps K H m ds vs) : ∀ n : Nat, reps K H m (List.replicate n ds).flatten (List.replicate n vs).flatten
  | 0 => by simp only [List.replicate_zero, List.flatten_nil, reps]
  | n + 1 => by
    simp only [List.replicate_succ, List.flatten_cons]
    exact reps_append r (reps_rep r n)
theorem opA_mul : OpA X (binaryOp .Mult) (binD .mul) := by
  refine ⟨_, OpR.or op_mul op_rep, fun x y v w H H0 m μ Q P E rm rx ry h hP => ?_⟩
  unfold binD at h
  split at h
  · rename_i i j
    split at h
    · rename_i k e
      simp only [binI, ifC] at e
      split at e
      · rename_i hc
        cases e
        refine .inl ⟨i, j, rep_int.mp rx, rep_int.mp ry, ?_, (hP _ _ h).scal rm (rep_int.mpr rfl)⟩
        unfold CMul
        simp only [inR, Bool.or_eq_true, Bool.and_eq_true, decide_eq_true_eq] at hc
        exact hc
      · cases e
    · exact h.elim
  · simp only at h
    split at h
    · rename_i xs k e1 _
      split at h
      · rename_i hc
        obtain ⟨a, vs, rfl, h1, r1⟩ := rm.lstN rx e1
        obtain ⟨z, q⟩ := mkL_ok (Q := Q) rm (reps_rep r1 k.toNat) h hP
        exact .inr ⟨a, k, vs, rfl, rep_int.mp ry, h1, by omega, by omega, by rw [← reps_len r1]; exact hc.2.2, q⟩
      · exact h.elim
    · exact h.elim
theorem opA_fdiv : OpA X (binaryOp .FloorDiv) (binD .fdiv) := opA_int (by decide) (by decide) op_fdiv fun i j k e => by
  simp only [binI, ifC] at e
  split at e
  · rename_i h
    cases e
    exact ⟨h, rfl⟩
  · cases e
theorem opA_mod : OpA X (binaryOp .Mod) (binD .mod) := opA_int (by decide) (by decide) op_mod fun i j k e => by
  simp only [binI] at e
  split at e
  · rename_i h
    cases e
    exact ⟨h, rfl⟩
  · cases e
theorem opA_pow : OpA X (binaryOp .Pow) (binD .pow) := opA_int (by decide) (by decide) op_pow fun i j k e => by
  simp only [binI] at e
  split at e
  · rename_i h
    cases e
    exact ⟨h, rfl⟩
  · cases e
def opOf : Bop → Operator
  | .add => .Add | .sub => .Sub | .mul => .Mult | .fdiv => .FloorDiv | .mod => .Mod | .pow => .Pow
theorem opA_bin (op : Bop) : OpA X (binaryOp (opOf op)) (binD op) := by
  cases op
  · exact opA_add
  · exact opA_sub
  · exact opA_mul
  · exact opA_fdiv
  · exact opA_mod
  · exact opA_pow

/-! ### comparisons -/
theorem toI_int {d : D} {i : Int} {K : PySem.W.Frag} {H : Hp} {m : List Addr} {v : V} (e : toI d = some i) (r : rep K H m d v) : v = .int i := by
  rw [toI_some e] at r
  exact rep_int.mp r
theorem tupIs_of {K : PySem.W.Frag} {H H0 : Hp} {m : List Addr} {μ : Mem} {d : D} {v : V} {ns : List Int} (rm : RelM K H H0 m μ) (r : rep K H0 m d v) (h : tupIs d = some ns) : ∃ a, v = .ref a ∧ SqT K H a (ns.map V.int) := by
  unfold tupIs at h
  split at h
  · rename_i ds e
    obtain ⟨a, vs, rfl, h1, r1⟩ := rm.tup r e
    rw [reps_ints r1 h] at h1
    exact ⟨a, rfl, .of h1⟩
  · cases h
theorem opA_lt (hu : X.A.units < cLine) : OpA X (compareOp .Lt) (cmpD .lt) := by
  refine ⟨_, OpR.or op_lt (op_ltT hu), fun x y v w H H0 m μ Q P E rm rx ry h hP => ?_⟩
  simp only [cmpD] at h
  split at h
  · rename_i i j e1 e2
    simp only [cmpI] at h
    exact .inl ⟨i, j, toI_int e1 rx, toI_int e2 ry, (hP _ _ h).scal rm (rep_bl.mpr rfl)⟩
  · split at h
    all_goals first
      | exact h.elim
      | (rename_i e0 _ _; cases e0; done)
      | (rename_i ns ms _ e1 e2
         obtain ⟨a, rfl, h1⟩ := tupIs_of rm rx e1
         obtain ⟨b, rfl, h2⟩ := tupIs_of rm ry e2
         exact .inr ⟨a, b, ns, ms, rfl, rfl, h1, h2, (hP _ _ h).scal rm (rep_bl.mpr rfl)⟩)
theorem opA_le (hu : X.A.units < cLine) : OpA X (compareOp .LtE) (cmpD .le) := by
  refine ⟨_, OpR.or op_le (op_leT hu), fun x y v w H H0 m μ Q P E rm rx ry h hP => ?_⟩
  simp only [cmpD] at h
  split at h
  · rename_i i j e1 e2
    simp only [cmpI] at h
    exact .inl ⟨i, j, toI_int e1 rx, toI_int e2 ry, (hP _ _ h).scal rm (rep_bl.mpr rfl)⟩
  · split at h
    all_goals first
      | exact h.elim
      | (rename_i e0 _ _; cases e0; done)
      | (rename_i ns ms _ e1 e2
         obtain ⟨a, rfl, h1⟩ := tupIs_of rm rx e1
         obtain ⟨b, rfl, h2⟩ := tupIs_of rm ry e2
         exact .inr ⟨a, b, ns, ms, rfl, rfl, h1, h2, (hP _ _ h).scal rm (rep_bl.mpr rfl)⟩)
theorem opA_cmpI {f : Value → Value → Sem Value} {op : Cop} {g : Int → Int → Bool} (ho : OpR X f (rI0 fun i j => .bl (g i j))) (hop : op = .gt ∨ op = .ge) (hb : ∀ i j, cmpI op i j = some (g i j)) : OpA X f (cmpD op) := by
  refine ⟨_, ho, fun x y v w H H0 m μ Q P E rm rx ry h hP => ?_⟩
  have h' : ∃ i j, toI x = some i ∧ toI y = some j ∧ P (.t (.bl (g i j))) μ := by
    rcases hop with rfl | rfl <;>
    · simp only [cmpD] at h
      split at h
      · rename_i i j e1 e2
        rw [hb] at h
        exact ⟨i, j, e1, e2, h⟩
      · exact h.elim
  obtain ⟨i, j, e1, e2, q⟩ := h'
  exact ⟨i, j, toI_int e1 rx, toI_int e2 ry, (hP _ _ q).scal rm (rep_bl.mpr rfl)⟩
theorem opA_gt : OpA X (compareOp .Gt) (cmpD .gt) := opA_cmpI op_gt (.inl rfl) fun _ _ => rfl
theorem opA_ge : OpA X (compareOp .GtE) (cmpD .ge) := opA_cmpI op_ge (.inr rfl) fun _ _ => rfl
theorem scalD_ok {K : PySem.W.Frag} {H : Hp} {m : List Addr} {x y : D} {v w : V} {b : Bool} (h : scalD x y = some b) (rx : rep K H m x v) (ry : rep K H m y w) : L2.scal v w = true ∧ decide (v = w) = b := by
  unfold scalD at h
  split at h
  · cases h
    rw [rep_non.mp rx, rep_non.mp ry]
    exact ⟨rfl, rfl⟩
  · cases h
    rw [rep_bl.mp rx, rep_bl.mp ry]
    exact ⟨rfl, dec_bl⟩
  · cases h
    rw [rep_int.mp rx, rep_int.mp ry]
    exact ⟨rfl, dec_int⟩
  · cases h
    rw [rep_str.mp rx, rep_str.mp ry]
    exact ⟨rfl, by simp⟩
  · cases h
mutual
theorem dp_of {K : PySem.W.Frag} {H : Hp} : ∀ {t : T} {v : V} {d : PyData}, toP t = some d → repT K H t v → Dp K H v d
  | .non, v, d, h, r => by simp only [toP] at h; simp only [repT] at r; cases h; subst r; exact .non
  | .bl b, v, d, h, r => by simp only [toP] at h; simp only [repT] at r; cases h; subst r; exact .bl _
  | .int i, v, d, h, r => by simp only [toP] at h; simp only [repT] at r; cases h; subst r; exact .int _
  | .str x, v, d, h, r => by simp only [toP] at h; simp only [repT] at r; cases h; subst r; exact .str _
  | .lst ts, v, d, h, r => by
    simp only [toP] at h
    simp only [repT] at r
    obtain ⟨a, vs, rfl, h1, h2⟩ := r
    obtain ⟨ds, e, rfl⟩ := Option.map_eq_some_iff.mp h
    exact .lst (.of h1) (dps_of e h2)
  | .tup ts, v, d, h, r => by
    simp only [toP] at h
    simp only [repT] at r
    obtain ⟨a, vs, rfl, h1, h2⟩ := r
    obtain ⟨ds, e, rfl⟩ := Option.map_eq_some_iff.mp h
    exact .tup (.of h1) (dps_of e h2)
  | .scr ns, v, d, h, r => by
    simp only [toP] at h
    simp only [repT] at r
    obtain ⟨a, rfl, h1⟩ := r
    cases h
    exact .lst h1 (dps_int ns)
  | .dct _, _, _, h, _ => by simp only [toP] at h; cases h
  | .dcT _, _, _, h, _ => by simp only [toP] at h; cases h
theorem dps_of {K : PySem.W.Frag} {H : Hp} : ∀ {ts : List T} {vs : List V} {ds : List PyData}, toPs ts = some ds → repTs K H ts vs → DpAll K H vs ds
  | [], vs, ds, h, r => by simp only [toPs] at h; simp only [repTs] at r; cases h; subst r; exact .nil
  | t :: ts, vs, ds, h, r => by
    simp only [toPs] at h
    simp only [repTs] at r
    obtain ⟨v, q, rfl, r1, r2⟩ := r
    split at h
    · rename_i d ds e1 e2
      cases h
      exact .cons (dp_of e1 r1) (dps_of e2 r2)
    · cases h
theorem dps_int {K : PySem.W.Frag} {H : Hp} : ∀ (ns : List Int), DpAll K H (ns.map V.int) (ns.map PyData.int)
  | [] => .nil
  | n :: ns => .cons (.int n) (dps_int ns)
end
theorem deep_dp {K : PySem.W.Frag} {H H0 : Hp} {m : List Addr} {μ : Mem} {x : D} {v : V} {d : PyData} (rm : RelM K H H0 m μ) (r : rep K H0 m x v) (h : deepD μ x = some d) : Dp K H v d := by
  unfold deepD at h
  split at h
  · simp only [rep] at r
    exact dp_of h (r.mono rm.same)
  · rename_i c
    split at h
    · rename_i ds e
      obtain ⟨ps, e1, rfl⟩ := Option.map_eq_some_iff.mp h
      obtain ⟨ts, e2, e3⟩ := Option.bind_eq_some_iff.mp e1
      have e0 : lstOf μ (.ref c) = some ds := by simp only [lstOf, e]
      obtain ⟨a, vs, rfl, h1, r1⟩ := rm.lst r e0
      rw [toTs_map e2, ← repT_ts] at r1
      exact .lst h1 (dps_of e3 (repTs.mono rm.same r1))
    · cases h
  · cases h
theorem eqP_ok {K : PySem.W.Frag} {H H0 : Hp} {m : List Addr} {μ : Mem} {x y : D} {v w : V} {b : Bool} (rm : RelM K H H0 m μ) (rx : rep K H0 m x v) (ry : rep K H0 m y w) (h : eqP μ x y = some b) : ∃ d e, Dp K H v d ∧ Dp K H w e ∧ SeqAt.shaped d = true ∧ SeqAt.shaped e = true ∧ PyData.eqv d e = b := by
  unfold eqP at h
  split at h
  · rename_i d e e1 e2
    split at h
    · rename_i hc
      rw [Bool.and_eq_true] at hc
      cases h
      exact ⟨d, e, deep_dp rm rx e1, deep_dp rm ry e2, hc.1, hc.2, rfl⟩
    · cases h
  · cases h
theorem memP_ok {K : PySem.W.Frag} {H H0 : Hp} {m : List Addr} {μ : Mem} {x y : D} {v w : V} {b : Bool} (rm : RelM K H H0 m μ) (rx : rep K H0 m x v) (ry : rep K H0 m y w) (h : memP μ x y = some b) : ∃ d ds, Dp K H v d ∧ Dp K H w (.list ds) ∧ d.canLay0 = true ∧ PyData.canLayAll0 ds = true ∧ d.depth ≤ 63 ∧ (ds.any fun z => PyData.eqv z d) = b := by
  unfold memP at h
  split at h
  · rename_i d ds e1 e2
    split at h
    · rename_i hc
      simp only [Bool.and_eq_true, decide_eq_true_eq] at hc
      cases h
      exact ⟨d, ds, deep_dp rm rx e1, deep_dp rm ry e2, hc.1.1, hc.1.2, hc.2, rfl⟩
    · cases h
  · cases h
def rMemP (K : PySem.W.Frag) (neg : Bool) : R2 := fun x y H Q => ∃ d ds, Dp K H x d ∧ Dp K H y (.list ds) ∧ d.canLay0 = true ∧ PyData.canLayAll0 ds = true ∧ d.depth ≤ 63 ∧ Q (.bl (if neg then !(ds.any fun z => PyData.eqv z d) else (ds.any fun z => PyData.eqv z d))) H
theorem op_memP (hu : X.A.units + 64 < cLine) : OpR X (compareOp .In) (rMemP X.K false) := by
  intro pins s σ H x y v u Q I rx ry h
  obtain ⟨d, ds, hd, he, sd, se, hz, q⟩ := h
  obtain ⟨as, r1⟩ := Dp.reads I d x v hd rx
  obtain ⟨bs, r2⟩ := Dp.reads I (.list ds) y u he ry
  exact SeqAt.in_list_reads r2 r1 se sd (by omega) ⟨.bl _, H, I, rfl, q⟩
theorem op_memPN (hu : X.A.units + 64 < cLine) : OpR X (compareOp .NotIn) (rMemP X.K true) := by
  intro pins s σ H x y v u Q I rx ry h
  obtain ⟨d, ds, hd, he, sd, se, hz, q⟩ := h
  obtain ⟨as, r1⟩ := Dp.reads I d x v hd rx
  obtain ⟨bs, r2⟩ := Dp.reads I (.list ds) y u he ry
  exact SeqAt.notIn_list_reads r2 r1 se sd (by omega) ⟨.bl _, H, I, rfl, q⟩
theorem opA_eq (hu : X.A.units + 64 < cLine) : OpA X (compareOp .Eq) (cmpD .eq) := by
  refine ⟨_, OpR.or op_eq (op_eqD hu), fun x y v w H H0 m μ Q P E rm rx ry h hP => ?_⟩
  simp only [cmpD] at h
  split at h
  · rename_i b e
    have hq := (hP _ _ h).scal rm (rep_bl.mpr rfl)
    split at e
    · rename_i b' e'
      cases e
      obtain ⟨h1, rfl⟩ := scalD_ok e' rx ry
      exact .inl ⟨h1, hq⟩
    · obtain ⟨d, e', q1, q2, q3, q4, rfl⟩ := eqP_ok rm rx ry e
      exact .inr ⟨d, e', q1, q2, q3, q4, hq⟩
  · exact h.elim
theorem opA_ne (hu : X.A.units + 64 < cLine) : OpA X (compareOp .NotEq) (cmpD .ne) := by
  refine ⟨_, OpR.or op_ne (op_neD hu), fun x y v w H H0 m μ Q P E rm rx ry h hP => ?_⟩
  simp only [cmpD] at h
  split at h
  · rename_i b e
    have hq := (hP _ _ h).scal rm (rep_bl.mpr rfl)
    split at e
    · rename_i b' e'
      cases e
      obtain ⟨h1, rfl⟩ := scalD_ok e' rx ry
      exact .inl ⟨h1, hq⟩
    · obtain ⟨d, e', q1, q2, q3, q4, rfl⟩ := eqP_ok rm rx ry e
      exact .inr ⟨d, e', q1, q2, q3, q4, hq⟩
  · exact h.elim
theorem rep_isNon {K : PySem.W.Frag} {H : Hp} {m : List Addr} {x : D} {v : V} (rx : rep K H m x v) : decide (v = .non) = isNon x := by
  unfold isNon
  split
  · rw [rep_non.mp rx]; rfl
  · rename_i hn
    refine decide_eq_false fun e => ?_
    subst e
    cases x with
    | t x => cases x <;> simp only [rep, repT] at rx <;> first | exact hn rfl | (obtain ⟨_, _, z, _⟩ := rx; exact nomatch z) | (obtain ⟨_, z, _⟩ := rx; exact nomatch z) | exact nomatch rx
    | ref c => simp only [rep] at rx; obtain ⟨_, _, z⟩ := rx; cases z
    | tp ds => simp only [rep] at rx; obtain ⟨_, _, z, _⟩ := rx; cases z
theorem isNon_of {K : PySem.W.Frag} {H : Hp} {m : List Addr} {x : D} {v : V} (h : isNon x = true) (rx : rep K H m x v) : v = .non := by
  unfold isNon at h
  split at h
  · exact rep_non.mp rx
  · cases h
theorem opA_isN : OpA X (compareOp .Is) (cmpD .isN) := by
  refine ⟨_, OpR.or op_isN op_is_bl, fun x y v w H H0 m μ Q P E rm rx ry h hP => ?_⟩
  simp only [cmpD] at h
  split at h
  · rename_i e
    refine .inl ⟨isNon_of e ry, ?_⟩
    rw [rep_isNon rx]
    exact (hP _ _ h).scal rm (rep_bl.mpr rfl)
  · split at h
    · rename_i a b _
      refine .inr ⟨a, b, rep_bl.mp rx, rep_bl.mp ry, ?_⟩
      have e : decide (a = b) = (a == b) := by cases a <;> cases b <;> rfl
      rw [e]
      exact (hP _ _ h).scal rm (rep_bl.mpr rfl)
    · exact h.elim
theorem opA_notN : OpA X (compareOp .IsNot) (cmpD .notN) := by
  refine ⟨_, OpR.or op_notN op_isnot_bl, fun x y v w H H0 m μ Q P E rm rx ry h hP => ?_⟩
  simp only [cmpD] at h
  split at h
  · rename_i e
    refine .inl ⟨isNon_of e ry, ?_⟩
    rw [rep_isNon rx]
    exact (hP _ _ h).scal rm (rep_bl.mpr rfl)
  · split at h
    · rename_i a b _
      refine .inr ⟨a, b, rep_bl.mp rx, rep_bl.mp ry, ?_⟩
      have e : decide (a = b) = (a == b) := by cases a <;> cases b <;> rfl
      rw [e]
      exact (hP _ _ h).scal rm (rep_bl.mpr rfl)
    · exact h.elim

/-! ### in -/
theorem keyOf_ok {K : PySem.W.Frag} {H : Hp} {m : List Addr} {x : D} {v : V} {k : Key} (h : keyOf x = some k) (r : rep K H m x v) : v = kV k := by
  unfold keyOf at h
  split at h
  · cases h; rw [rep_int.mp r]; rfl
  · cases h; rw [rep_str.mp r]; rfl
  · cases h
theorem keysOf_ok {K : PySem.W.Frag} {H : Hp} : ∀ {ts : List T} {vs : List V} {k : List Key}, keysOf ts = some k → repTs K H ts vs → vs = k.map kV
  | [], _, k, h, r => by
    simp only [keysOf, Option.some.injEq] at h
    simp only [repTs] at r
    subst h; subst r; rfl
  | .int i :: ts, _, k, h, r => by
    simp only [keysOf, Option.map_eq_some_iff] at h
    obtain ⟨q, h1, rfl⟩ := h
    simp only [repTs, repT] at r
    obtain ⟨v, r', rfl, rfl, r2⟩ := r
    rw [keysOf_ok h1 r2]; rfl
  | .str i :: ts, _, k, h, r => by
    simp only [keysOf, Option.map_eq_some_iff] at h
    obtain ⟨q, h1, rfl⟩ := h
    simp only [repTs, repT] at r
    obtain ⟨v, r', rfl, rfl, r2⟩ := r
    rw [keysOf_ok h1 r2]; rfl
  | .non :: ts, _, k, h, r => by simp [keysOf] at h
  | .bl _ :: ts, _, k, h, r => by simp [keysOf] at h
  | .lst _ :: ts, _, k, h, r => by simp [keysOf] at h
  | .tup _ :: ts, _, k, h, r => by simp [keysOf] at h
  | .dct _ :: ts, _, k, h, r => by simp [keysOf] at h
  | .dcT _ :: ts, _, k, h, r => by simp [keysOf] at h
  | .scr _ :: ts, _, k, h, r => by simp [keysOf] at h
theorem keyTOf_ok {K : PySem.W.Frag} {H : Hp} {m : List Addr} {x : D} {v : V} {k : List Key} (h : keyTOf x = some k) (r : rep K H m x v) : ∃ b, v = .ref b ∧ H b = some (.tup (k.map kV)) := by
  unfold keyTOf at h
  split at h
  · simp only [rep, repT] at r
    obtain ⟨a, vs, rfl, h1, h2⟩ := r
    rw [keysOf_ok h h2] at h1
    exact ⟨a, rfl, h1⟩
  · cases h
/-- what a dict holds -/
theorem RelM.dget {K : PySem.W.Frag} {H H0 : Hp} {m : List Addr} {μ : Mem} {x y : D} {v w : V} {kds : List (Key × D)} {k : Key} (rm : RelM K H H0 m μ) (rx : rep K H0 m x v) (ry : rep K H0 m y w) (h1 : dctOf μ x = some kds) (h2 : keyOf y = some k) :
    ∃ a o, v = .ref a ∧ DGet H a w o ∧ (match getK kds k with | some d => ∃ z, o = some z ∧ rep K H0 m d z | none => o = none) := by
  obtain ⟨a, kvs, rfl, e, r⟩ := rm.dct rx h1
  rw [keyOf_ok h2 ry]
  exact ⟨a, valV kvs k, rfl, DGet.k e, repK_get r⟩
theorem RelM.dgetT {K : PySem.W.Frag} {H H0 : Hp} {m : List Addr} {μ : Mem} {x y : D} {v w : V} {kds : List (List Key × D)} {k : List Key} (rm : RelM K H H0 m μ) (rx : rep K H0 m x v) (ry : rep K H0 m y w) (h1 : dctTOf μ x = some kds) (h2 : keyTOf y = some k) :
    ∃ a o, v = .ref a ∧ DGet H a w o ∧ (match getK kds k with | some d => ∃ z, o = some z ∧ rep K H0 m d z | none => o = none) := by
  obtain ⟨a, kvs, rfl, e, r⟩ := rm.dctT rx h1
  obtain ⟨b, rfl, eb⟩ := keyTOf_ok h2 ry
  exact ⟨a, valV kvs k, rfl, DGet.t e (rm.same _ _ eb), repK_get r⟩
def rDIn (neg : Bool) : R2 := fun y x H Q => ∃ a o, x = .ref a ∧ DGet H a y o ∧ Q (.bl (if neg then !o.isSome else o.isSome)) H
theorem op_inD (hu : X.A.units + 1 < cLine) : OpR X (compareOp .In) (rDIn false) := by
  intro pins s σ H x y v u Q I rx ry h
  obtain ⟨a, o, rfl, g, q⟩ := h
  cases ry
  exact d_in hu I g rx fun s' I' => ⟨.bl o.isSome, H, I', rfl, q⟩
theorem op_ninD (hu : X.A.units + 1 < cLine) : OpR X (compareOp .NotIn) (rDIn true) := by
  intro pins s σ H x y v u Q I rx ry h
  obtain ⟨a, o, rfl, g, q⟩ := h
  cases ry
  exact d_notIn hu I g rx fun s' I' => ⟨.bl (!o.isSome), H, I', rfl, q⟩
theorem flatT_ok {K : PySem.W.Frag} {H : Hp} {t : T} {v : V} (h : flatT t = true) (r : repT K H t v) : flatV v = true := by
  cases t <;> simp only [repT] at r <;> first | (subst r; rfl) | (simp [flatT] at h)
theorem eqF_ok {K : PySem.W.Frag} {H : Hp} {a b : T} {v w : V} (ha : flatT a = true) (hb : flatT b = true) (ra : repT K H a v) (rb : repT K H b w) : eqV v w = eqF a b := by
  cases a <;> simp only [flatT] at ha <;> (try cases ha) <;> cases b <;> simp only [flatT] at hb <;> (try cases hb) <;> simp only [repT] at ra rb <;> subst ra <;> subst rb <;> simp only [eqV, eqF]
  rw [Bool.eq_iff_iff]; simp
theorem inV_ok {K : PySem.W.Frag} {H : Hp} {x : T} {v : V} (hx : flatT x = true) (rx : repT K H x v) : ∀ {ts : List T} {vs : List V}, ts.all flatT = true → repTs K H ts vs → inV v vs = (ts.any fun y => eqF y x) ∧ vs.all flatV = true
  | [], _, _, r => by
    simp only [repTs] at r
    subst r
    exact ⟨rfl, rfl⟩
  | t :: ts, _, h, r => by
    simp only [repTs] at r
    obtain ⟨w, q, rfl, r1, r2⟩ := r
    simp only [List.all_cons, Bool.and_eq_true] at h
    obtain ⟨i1, i2⟩ := inV_ok hx rx h.2 r2
    unfold inV at i1 ⊢
    simp only [List.any_cons, List.all_cons, i1, i2, eqF_ok h.1 hx r1 rx, flatT_ok h.1 r1, Bool.and_self, and_self]
theorem mem_ok {K : PySem.W.Frag} {H H0 : Hp} {m : List Addr} {μ : Mem} {x y : D} {v w : V} {b neg : Bool} {Q : VK} (rm : RelM K H H0 m μ) (rx : rep K H0 m x v) (ry : rep K H0 m y w) (h : memD x y μ = some b) (q : Q (.bl (if neg then !b else b)) H) :
    rDIn neg v w H Q ∨ rIn K neg v w H Q ∨ rMemP K neg v w H Q := by
  unfold memD at h
  split at h
  · rename_i kds e1
    split at h
    · rename_i k e2
      cases h
      obtain ⟨a, o, rfl, g, r⟩ := rm.dget ry rx e1 e2
      refine .inl ⟨a, o, rfl, g, ?_⟩
      have e : o.isSome = (getK kds k).isSome := by
        split at r
        · rename_i d e3
          obtain ⟨z, rfl, _⟩ := r
          rw [e3]; rfl
        · rename_i e3
          subst r
          rw [e3]; rfl
      rw [e]; exact q
    · cases h
  · split at h
    · rename_i kds e1
      split at h
      · rename_i k e2
        cases h
        obtain ⟨a, o, rfl, g, r⟩ := rm.dgetT ry rx e1 e2
        refine .inl ⟨a, o, rfl, g, ?_⟩
        have e : o.isSome = (getK kds k).isSome := by
          split at r
          · rename_i d e3
            obtain ⟨z, rfl, _⟩ := r
            rw [e3]; rfl
          · rename_i e3
            subst r
            rw [e3]; rfl
        rw [e]; exact q
      · cases h
    · split at h
      · rename_i ds e1
        split at h
        · rename_i x' ts e2
          split at h
          · rename_i hf
            cases h
            simp only [Bool.and_eq_true] at hf
            have fin : ∀ vs, reps K H0 m ds vs → inV v vs = (ts.any fun y => eqF y x') ∧ vs.all flatV = true := fun vs rv => by
              rw [toTs_map e2, ← repT_ts] at rv
              simp only [rep] at rx
              exact inV_ok hf.1 rx hf.2 rv
            simp only [rep] at rx
            have fx := flatT_ok hf.1 rx
            refine .inr (.inl ?_)
            cases e3 : lstOf μ y with
            | some l =>
              rw [e3] at e1
              cases e1
              obtain ⟨a, vs, rfl, h1, r1⟩ := rm.lst ry e3
              obtain ⟨f1, f2⟩ := fin vs r1
              exact ⟨a, vs, rfl, .inl h1, fx, f2, by rw [f1]; exact q⟩
            | none =>
              rw [e3] at e1
              obtain ⟨a, vs, rfl, h1, r1⟩ := rm.tup ry e1
              obtain ⟨f1, f2⟩ := fin vs r1
              exact ⟨a, vs, rfl, .inr (.of h1), fx, f2, by rw [f1]; exact q⟩
          · obtain ⟨d, ds', q1, q2, q3, q4, q5, rfl⟩ := memP_ok rm rx ry h
            exact .inr (.inr ⟨d, ds', q1, q2, q3, q4, q5, q⟩)
        · cases h
      · cases h
theorem opA_mem (hu : X.A.units + 64 < cLine) : OpA X (compareOp .In) (cmpD .mem) := by
  refine ⟨_, OpR.or (op_inD (by omega)) (OpR.or op_in_seq (op_memP hu)), fun x y v w H H0 m μ Q P E rm rx ry h hP => ?_⟩
  simp only [cmpD] at h
  split at h
  · rename_i b e
    exact mem_ok (neg := false) rm rx ry e ((hP _ _ h).scal rm (rep_bl.mpr rfl))
  · exact h.elim
theorem opA_nmem (hu : X.A.units + 64 < cLine) : OpA X (compareOp .NotIn) (cmpD .nmem) := by
  refine ⟨_, OpR.or (op_ninD (by omega)) (OpR.or op_notIn_seq (op_memPN hu)), fun x y v w H H0 m μ Q P E rm rx ry h hP => ?_⟩
  simp only [cmpD] at h
  split at h
  · rename_i b e
    exact mem_ok (neg := true) rm rx ry e ((hP _ _ h).scal rm (rep_bl.mpr rfl))
  · exact h.elim
def copOf : Cop → CmpOp
  | .eq => .Eq | .ne => .NotEq | .lt => .Lt | .le => .LtE | .gt => .Gt | .ge => .GtE | .isN => .Is | .notN => .IsNot | .mem => .In | .nmem => .NotIn
theorem opA_cmp (hu : X.A.units + 64 < cLine) (op : Cop) : OpA X (compareOp (copOf op)) (cmpD op) := by
  cases op
  · exact opA_eq hu
  · exact opA_ne hu
  · exact opA_lt (by omega)
  · exact opA_le (by omega)
  · exact opA_gt
  · exact opA_ge
  · exact opA_isN
  · exact opA_notN
  · exact opA_mem (by omega)
  · exact opA_nmem (by omega)

/-! ### items -/
theorem idx_seq {n : Nat} {i : Int} : idx n i = ixN n i := rfl
theorem ix_dict (hu : X.A.units + 1 < cLine) : IxR X (fun x y H Q => ∃ a v, x = .ref a ∧ DGet H a y (some v) ∧ Q v H) := by
  intro value slice pins s σ H x y v u Q I rx ry h hs
  obtain ⟨a, z, rfl, g, q⟩ := h
  cases rx
  exact tail_any (dict_typeIs I g) PySem.F.slot_dict_getitem.lookup (d_getItem hu I g ry fun w' s' I' r' => ⟨z, H, I', r', q⟩) hs
theorem ixA (hu : X.A.units + 1 < cLine) : ∃ r, IxR X r ∧ ∀ (x y : D) (v w : V) (H H0 : Hp) (m : List Addr) (μ : Mem) (Q : VK) (P : D → Mem → Prop) (E : Exn → Mem → Prop),
    RelM X.K H H0 m μ → rep X.K H0 m x v → rep X.K H0 m y w → Sat (ixD x y μ) P E → (∀ d μ, P d μ → PostE X.K Q H H0 m d μ) → r v w H Q := by
  refine ⟨_, (ix_dict hu).or (ix_list.or ix_tup), fun x y v w H H0 m μ Q P E rm rx ry h hP => ?_⟩
  unfold ixD at h
  split at h
  · rename_i kds e1
    split at h
    · rename_i k e2
      obtain ⟨a, o, rfl, g, r⟩ := rm.dget rx ry e1 e2
      split at h
      · rename_i d e3
        rw [e3] at r
        obtain ⟨z, rfl, rz⟩ := r
        exact .inl ⟨a, z, rfl, g, (hP _ _ h).scal rm rz⟩
      · exact h.elim
    · exact h.elim
  · split at h
    · rename_i kds e1
      split at h
      · rename_i k e2
        obtain ⟨a, o, rfl, g, r⟩ := rm.dgetT rx ry e1 e2
        split at h
        · rename_i d e3
          rw [e3] at r
          obtain ⟨z, rfl, rz⟩ := r
          exact .inl ⟨a, z, rfl, g, (hP _ _ h).scal rm rz⟩
        · exact h.elim
      · exact h.elim
    · split at h
      · rename_i ds i e1 e2
        split at h
        · rename_i d e3
          rw [idx_seq] at e3
          obtain ⟨j, j1, j2⟩ := Option.bind_eq_some_iff.mp e3
          have wi := toI_int e2 ry
          have at_ : ∀ vs, reps X.K H0 m ds vs → ∃ z, atI vs i = some z ∧ rep X.K H0 m d z := fun vs rv => by
            obtain ⟨z, z1, z2⟩ := reps_get rv j2
            refine ⟨z, ?_, z2⟩
            unfold atI
            rw [← reps_len rv, j1]
            exact z1
          cases e4 : lstOf μ x with
          | some l =>
            rw [e4] at e1
            cases e1
            obtain ⟨a, vs, rfl, h1, r1⟩ := rm.lst rx e4
            obtain ⟨z, z1, z2⟩ := at_ vs r1
            exact .inr (.inl ⟨a, vs, i, z, rfl, wi, h1, z1, (hP _ _ h).scal rm z2⟩)
          | none =>
            rw [e4] at e1
            obtain ⟨a, vs, rfl, h1, r1⟩ := rm.tup rx e1
            obtain ⟨z, z1, z2⟩ := at_ vs r1
            exact .inr (.inr ⟨a, vs, i, z, rfl, wi, .of h1, z1, (hP _ _ h).scal rm z2⟩)
        · exact h.elim
      · exact h.elim
theorem reps_cut {K : PySem.W.Frag} {H : Hp} {m : List Addr} {ds : List D} {vs : List V} (r : reps K H m ds vs) (lo hi : Option Int) : reps K H m (cutD ds lo hi) (cutV vs lo hi) := by
  unfold cutD cutV sIx
  rw [reps_len r]
  exact reps_take _ (reps_drop _ r)
theorem slcA (fz : Bool) : SlR X (rSlL X.K) ∧ ∀ (x : D) (v : V) (lo hi : Option Int) (H H0 : Hp) (m : List Addr) (μ : Mem) (Q : VK) (P : D → Mem → Prop) (E : Exn → Mem → Prop),
    RelM X.K H H0 m μ → rep X.K H0 m x v → Sat (slcD fz x lo hi μ) P E → (∀ d μ, P d μ → PostE X.K Q H H0 m d μ) → rSlL X.K v lo hi H Q := by
  refine ⟨sl_list, fun x v lo hi H H0 m μ Q P E rm rx h hP => ?_⟩
  unfold slcD at h
  split at h
  · rename_i ds e
    obtain ⟨a, vs, rfl, h1, r1⟩ := rm.lst rx e
    exact ⟨a, vs, rfl, h1, (mkL_ok rm (reps_cut r1 lo hi) h hP).2⟩
  · exact h.elim
end
end MI
/-! MIX: rules by values that the hand layer has not. -/
namespace MI
open PySem PySem.Spec PyProof.Rows L2
section
variable {X : Cx}
/-- l.remove(y), what stands in l read as data -/
def rRemD (K : PySem.W.Frag) : V → List V → Hp → VK → Prop := fun x vs H Q => ∃ (l : Addr) (xs : List V) (y : V) (ds : List PyData) (d : PyData) (j : Nat), x = .ref l ∧ vs = [y] ∧ H l = some (.lst xs) ∧ DpAll K H xs ds ∧ Dp K H y d ∧
  PyData.plainAll ds = true ∧ d.plain = true ∧ d.depth ≤ 62 ∧ SeqAt.dataPlace ds d = some j ∧ Q .non (upd H l (.lst (xs.eraseIdx j)))
theorem mt_removeD (hu : X.A.units + 64 < cLine) : MtR X "list.remove" (rRemD X.K) := by
  intro pins s σ H x vs v us Q I rx rv h
  obtain ⟨l, xs, y, ds, d, j, rfl, rfl, hH, hx, hy, px, pd, dd, hp, q⟩ := h
  cases rx
  obtain ⟨u, rfl, ru⟩ := rv.one
  obtain ⟨z, its, n, r, hl, e⟩ := I.lstM hH
  obtain ⟨bs, r1⟩ := Dp.reads I d y u hy ru
  obtain ⟨as, r2⟩ := Dp.readsAll I ds xs its hx r
  have hm := Nat.min_le_right (PyData.depthAll ds) d.depth
  refine SeqAt.remove_list_data (vs := its.toArray) ⟨_, e, rfl, n, rfl⟩ r2 r1 px pd (by omega) hp (by rw [List.size_toArray]; omega) ?_
  refine ⟨.non, _, I.lset (its' := its.eraseIdx j) (t' := s.toks) hH e ?_ (r.eraseIdx j) ?_, rfl, q⟩
  · show its.toArray.eraseIdxIfInBounds j = (its.eraseIdx j).toArray
    rw [List.eraseIdxIfInBounds_toArray]
  · have := List.length_eraseIdx_le xs j
    omega
/-- sorted(l, reverse=True), pairs of ints -/
def rSortedPR (K : PySem.W.Frag) : List V → List V → Hp → VK → Prop := fun vs zs H Q => ∃ (a : Addr) (xs : List V) (k : V → Int × Int), vs = [V.ref a] ∧ zs = [.bl true] ∧ SqL K H a xs ∧ (∀ x ∈ xs, ∃ t, x = V.ref t ∧ H t = some (.tup [.int (k x).1, .int (k x).2])) ∧
  ∀ ys p, SrtO.Srtd (ltP k) ys → ys.Perm xs → H p = none → Q (.ref p) (upd H p (.lst ys.reverse))
theorem cr_sortedPR : CallRK X (.builtin "sorted") [Str.ofString "reverse"] (rSortedPR X.K) := by
  intro pins s σ H vs zs us ws Q I r rz h
  obtain ⟨a, xs, k, rfl, rfl, hs, hx, q⟩ := h
  obtain rfl := Vals.ref1 r
  obtain ⟨w1, rfl, e0⟩ := vals1 rz
  obtain rfl : w1 = Value.bool true := e0
  obtain ⟨its, rv, hl, hz⟩ := I.list hs
  obtain ⟨e1, e2⟩ := refs_back rv fun x m => by
    obtain ⟨t, e, _⟩ := hx x m
    exact ⟨t, e⟩
  have hp : ∀ v ∈ its, Srt.IsPair s.heap v (k (backV v)).1 (k (backV v)).2 := fun v hv => by
    obtain ⟨t, rfl⟩ := e2 v hv
    obtain ⟨t', e, ht⟩ := hx (V.ref t) (by rw [e1]; exact List.mem_map.mpr ⟨_, hv, rfl⟩)
    cases e
    obtain ⟨_, its2, r2, o, ho, hc, n, hd⟩ := I.hok _ _ ht
    obtain ⟨u1, u2, rfl, ri, rj⟩ := vals2 r2
    obtain ⟨t1, rfl⟩ := ri
    obtain ⟨t2, rfl⟩ := rj
    exact ⟨t, o, t1, t2, n, rfl, ho, hc, hd⟩
  refine SrtR.sorted_ordK (b := true) (kw := [(Str.ofString "reverse", .bool true)]) (fun _ => rfl) (PyProof.Rows.args_sorted_rev _ _) (fun _ => PyProof.Rows.args_list_sort_rev _ _) (SrtO.swo_lex fun u => k (backV u)) hl.isList (by rw [← rv.length]; exact hz)
    (fun h2 h1 a' ho keep => SrtO.pairs_sortableO (by omega) (fun v hv => (hp v hv).keeps fun b o e _ => (keep b o e).2) fun o e => ?_) fun out h1 h2 => ?_
  · have e' : some o = some (seqObj "list" its.toArray 0) := e.symm.trans ho
    cases e'
    intro z
    injection z with z
    exact absurd z (by decide)
  · have hp2 : out.Perm its := h2.perm.trans (List.reverse_perm _)
    have h3 : ∀ u ∈ out.reverse, ∃ a, u = Value.ref a := fun u hu => e2 u (hp2.mem_iff.mp (List.mem_reverse.mp hu))
    have hb : (out.map backV).Perm xs := by
      rw [e1]
      exact hp2.map backV
    obtain ⟨ep, he'⟩ := PyProof.Rows.sortedAll_at s.heap its out.toArray.reverse
    have er : (out.map backV).reverse = out.reverse.map backV := by rw [List.map_reverse]
    have ea : out.reverse.toArray = out.toArray.reverse := by
      apply Array.ext'
      rw [Array.toList_reverse]
    have hlen : (out.map backV).reverse.length ≤ sizeLine := by
      rw [List.length_reverse, hb.length_eq]
      exact hz
    exact ⟨.ref _, upd H (s.heap.objs.size + 1) (.lst (out.map backV).reverse), I.laid (t' := s.toks) (fun _ _ => PyProof.Rows.sortedAll_old) (Nat.le_succ _) ⟨hlen, out.reverse, ep, by rw [er]; exact vals_back h3, by rw [ea]; exact he'⟩, rfl, q _ _ (SrtO.srtd_map h1) hb (I.hok.fresh (Nat.le_succ _))⟩
end
end MI
/-! MI4: expressions. -/
namespace MI
open PySem PySem.Spec PyProof.Rows L2

/-! ### what an expression's head tells -/
def plX : Expr → Bool
  | .Name .. => true | .Constant .. => true | .BinOp .. => true | .UnaryOp .. => true | .Compare .. => true | .BoolOp .. => true | .IfExp .. => true
  | .Tuple .. => true | .List .. => true | .Dict .. => true | .Subscript .. => true | .Call .. => true | .ListComp .. => true | .Attribute .. => true
  | _ => false
def notLc : Expr → Bool
  | .ListComp .. => false
  | _ => true
def notTL : Expr → Bool
  | .Tuple .. => false | .List .. => false
  | _ => true
/-- isTrue reads its value -/
def valX : Expr → Bool
  | .UnaryOp .USub _ _ => true
  | .Name .. => true | .Constant .. => true | .BinOp .. => true | .Tuple .. => true | .List .. => true | .Dict .. => true | .Subscript .. => true | .Call .. => true | .ListComp .. => true | .Attribute .. => true
  | _ => false
/-- the receiver of a method -/
def rcvX : Expr → Bool
  | .Name .. => true | .Subscript .. => true | .Attribute .. => true | .Constant .. => true
  | _ => false
theorem starEach_pl {e : Expr} {es : List Expr} {env : Env} (h : plX e = true) : starEach (e :: es) env = (false, eval e env) :: starEach es env := by
  cases e <;> first | rfl | (exact nomatch h)
theorem starEach_any {env : Env} {pos : Pos} : ∀ {es : List Expr}, es.all plX = true → (backTo pos (starEach es env)).any (·.1) = false
  | [], _ => rfl
  | e :: es, h => by
    simp only [List.all_cons, Bool.and_eq_true] at h
    rw [starEach_pl h.1]
    have ih := starEach_any (env := env) (pos := pos) h.2
    unfold backTo at ih ⊢
    rw [List.map_cons, List.any_cons, ih]
    rfl
theorem nomarkX {b : Expr} {op : CmpOp} (h : plX b = true) : behindInMarks op b = false := by
  cases b <;> first | rfl | (exact nomatch h)
theorem plainIx {b : Expr} (h : plX b = true) : PlainIx b := fun o i => by
  cases b <;> first | rfl | (exact nomatch h)
theorem folded_pl {e : Expr} {env : Env} (h : plX e = true) : ∀ x, foldedSetIterable e env x = pure x := fun x => by
  cases e <;> first | rfl | (exact nomatch h)
theorem swaps_pl {e : Expr} {t : Option Expr} {l : Nat} {env : Env} (h : plX e = true) (h2 : notLc e = true) : swapsWith e t l env = pure false := by
  cases e
  case ListComp => simp [notLc] at h2
  case SetComp => exact nomatch h
  case DictComp => exact nomatch h
  all_goals rfl
theorem attr_pl {e : Expr} {f : Str} {env : Env} {w : Sem Value} (h : rcvX e = true) : attributeBase e f env w = w := by
  cases e <;> first | rfl | (exact nomatch h)
theorem isTrue_val {e : Expr} {env : Env} (h : valX e = true) : ∀ whole, isTrue e env whole = (do let v ← whole; standAt e.pos; holding [v] (truthy v)) := fun w => by
  cases e
  case UnaryOp op a p => cases op <;> first | rfl | (exact nomatch h)
  all_goals first | rfl | (exact nomatch h)

structure VEs (Γ : Gam) (k : Nat) (N : List Str) (sc : Sco) (xs : List Expr) (es : Es) : Prop where
  pl : xs.all plX = true
  run : ∀ X W, Gd Γ k N sc X W → ∃ t, PA X xs t ∧ AnsG reps X W t (evEs Γ.F es)
structure VT (Γ : Gam) (k : Nat) (N : List Str) (sc : Sco) (x : Expr) (e : E) : Prop where
  run : ∀ X W, Gd Γ k N sc X W → ∃ t, PT X x t ∧ AnsG eqR X W t (fun env => bnd (evE Γ.F e env) toB)
section
variable {Γ : Gam} {k : Nat} {N : List Str} {sc : Sco} {pos : Pos}
theorem Gd.hu {X : Cx} {W : WX} (g : Gd Γ k N sc X W) : X.A.units + 64 < cLine := g.room.units
def visB : Option NameKind → Bool
  | some .local => true | some .cell => true | some .free => true
  | _ => false
def locS (sc : Sco) (x : Str) : Bool := match sc.names.lookup x with
  | some .local => true
  | some .cell => sc.cf x
  | _ => false
def giB : Option NameKind → Bool
  | some .globalImplicit => true
  | _ => false
theorem Gd.vis {X : Cx} {W : WX} (g : Gd Γ k N sc X W) {x : Str} (h : visB (sc.names.lookup x) = true) : Vis X.env.scope x := by
  rw [g.hsc]
  unfold visB at h
  split at h
  · exact .inl (by assumption)
  · exact .inr (.inl (by assumption))
  · exact .inr (.inr (by assumption))
  · cases h
theorem Gd.loc {X : Cx} {W : WX} (g : Gd Γ k N sc X W) {x : Str} (h : locS sc x = true) : Loc X.env.scope x ∧ (X.fn x = true ∨ X.env.scope.names.lookup x = some .local) := by
  rw [g.hsc]
  unfold locS at h
  split at h
  · rename_i e
    exact ⟨.inl e, .inr e⟩
  · rename_i e
    exact ⟨.inr e, .inl (g.fn _ h)⟩
  · cases h
theorem Gd.gl {X : Cx} {W : WX} (g : Gd Γ k N sc X W) {x : Str} (h : giB (sc.names.lookup x) = true) : Gl X x := by
  unfold Gl Env.kindOf
  rw [g.hsc]
  unfold giB at h
  split at h
  · assumption
  · cases h
theorem ve_var {i : Nat} {x : Str} (h1 : N[i]? = some x) (h2 : visB (sc.names.lookup x) = true) (h3 : (x == ("__debug__" : Str)) = false) (h4 : (x == ("__classdict__" : Str)) = false) : VE Γ k N sc (.Name x pos) (.var i) := ⟨fun X W g => by
  refine ⟨_, pe_var (i := i) (by rw [g.hN]; exact h1) (g.vis h2) h3 h4, fun σ H env μ H0 m Q rm en h => ?_⟩
  simp only [evE] at h
  split at h
  · rename_i d e
    obtain ⟨v, e1, r1⟩ := en.get i d e
    exact ⟨v, e1, h v H H0 m rm Step.refl r1⟩
  · exact h.elim⟩
def cstB : Const → T → Bool
  | .none, .non => true
  | .bool a, .bl b => a == b
  | .int a, .int b => a == b
  | .str a, .str b => decide (a = b)
  | _, _ => false
theorem ve_cst {c : Const} {t : T} {j : Nat} (hc : cstB c t = true) : VE Γ k N sc (.Constant c j pos) (.cst t) := ⟨fun X W g => by
  unfold cstB at hc
  split at hc
  · exact ⟨_, pe_non, fun σ H env μ H0 m Q rm en h => h .non H H0 m rm Step.refl (rep_non.mpr rfl)⟩
  · rename_i a b
    have e : a = b := by simpa using hc
    subst e
    exact ⟨_, pe_bl, fun σ H env μ H0 m Q rm en h => h (.bl a) H H0 m rm Step.refl (rep_bl.mpr rfl)⟩
  · rename_i a b
    have e : a = b := by simpa using hc
    subst e
    exact ⟨_, pe_int, fun σ H env μ H0 m Q rm en h => h (.int a) H H0 m rm Step.refl (rep_int.mpr rfl)⟩
  · rename_i a b
    have e : a = b := by simpa using hc
    subst e
    exact ⟨_, pe_str, fun σ H env μ H0 m Q rm en h => h (.str a) H H0 m rm Step.refl (rep_str.mpr rfl)⟩
  · cases hc⟩
theorem ve_glo {x : Str} {t : T} (h1 : giB (sc.names.lookup x) = true) (h2 : (x, t) ∈ Γ.glo) (h3 : (x == ("__debug__" : Str)) = false) : VE Γ k N sc (.Name x pos) (.glo x t) := ⟨fun X W g => by
  obtain ⟨u, hm, r⟩ := g.glo x t h2
  have hv : ∃ v, RelV v u ∧ ∀ K H m, rep K H m (.t t) v := by
    cases t with
    | non => exact ⟨.non, r, fun _ _ _ => rep_non.mpr rfl⟩
    | bl b => exact ⟨.bl b, r, fun _ _ _ => rep_bl.mpr rfl⟩
    | int i => exact ⟨.int i, r, fun _ _ _ => rep_int.mpr rfl⟩
    | str s => exact ⟨.str s, r, fun _ _ _ => rep_str.mpr rfl⟩
    | lst _ => exact r.elim
    | tup _ => exact r.elim
    | dct _ => exact r.elim
    | dcT _ => exact r.elim
    | scr _ => exact r.elim
  obtain ⟨v, rv, hr⟩ := hv
  exact ⟨_, pe_glob (g.gl h1) hm rv h3, fun σ H env μ H0 m Q rm en h => h v H H0 m rm Step.refl (hr _ _ _)⟩⟩
theorem ve_bin {a b : Expr} {ea eb : E} {op : Bop} (ha : VE Γ k N sc a ea) (hb : VE Γ k N sc b eb) : VE Γ k N sc (.BinOp a (opOf op) b pos) (.bin op ea eb) := ⟨fun X W g => by
  obtain ⟨ta, pa, aa⟩ := ha.run X W g
  obtain ⟨tb, pb, ab⟩ := hb.run X W g
  obtain ⟨r, ho, hr⟩ := opA_bin (X := X) op
  refine ⟨_, pe_op ho pa pb, fun σ H env μ H0 m Q rm en h => ?_⟩
  simp only [evE] at h
  refine aa.bnd rm en h fun d μ1 v H1 H01 m1 rm1 s1 r1 en1 h1 => ?_
  refine ab.bnd rm1 en1 h1 fun e μ2 w H2 H02 m2 rm2 s2 r2 en2 h2 => ?_
  exact hr d e v w H2 H02 m2 μ2 Q _ _ rm2 (r1.step s2) r2 h2 fun x μ3 q => PostE.later (Q := Q) q (s1.trans s2)⟩
theorem ve_neg {a : Expr} {ea : E} (ha : VE Γ k N sc a ea) : VE Γ k N sc (.UnaryOp .USub a pos) (.neg ea) := ⟨fun X W g => by
  obtain ⟨ta, pa, aa⟩ := ha.run X W g
  refine ⟨_, pe_un un_neg pa, fun σ H env μ H0 m Q rm en h => ?_⟩
  simp only [evE] at h
  refine aa.bnd rm en h fun d μ1 v H1 H01 m1 rm1 s1 r1 en1 h1 => ?_
  split at h1
  · rename_i i e
    exact ⟨i, toI_int e r1, h1 _ _ _ _ rm1 s1 (rep_int.mpr rfl)⟩
  · exact h1.elim⟩
theorem cmp_ans {X : Cx} {W : WX} {a b : Expr} {ea eb : E} {op : Cop} (g : Gd Γ k N sc X W) (ha : VE Γ k N sc a ea) (hb : VE Γ k N sc b eb) (hm : plX b = true) :
    ∃ t, PE X (.Compare a [copOf op] [b] pos) t ∧ PT X (.Compare a [copOf op] [b] pos) (tTest t) ∧ Ans X W t (evE Γ.F (.cmp op ea eb)) := by
  obtain ⟨ta, pa, aa⟩ := ha.run X W g
  obtain ⟨tb, pb, ab⟩ := hb.run X W g
  obtain ⟨r, ho, hr⟩ := opA_cmp (X := X) g.hu op
  refine ⟨_, pe_cmpR ho pa pb (nomarkX hm), pt_cmpR ho pa pb (nomarkX hm), fun σ H env μ H0 m Q rm en h => ?_⟩
  simp only [evE] at h
  refine aa.bnd rm en h fun d μ1 v H1 H01 m1 rm1 s1 r1 en1 h1 => ?_
  refine ab.bnd rm1 en1 h1 fun e μ2 w H2 H02 m2 rm2 s2 r2 en2 h2 => ?_
  exact hr d e v w H2 H02 m2 μ2 Q _ _ rm2 (r1.step s2) r2 h2 fun x μ3 q => PostE.later (Q := Q) q (s1.trans s2)
theorem toB_some {d : D} {μ : Mem} {P : Bool → Mem → Prop} {E : Exn → Mem → Prop} (h : Sat (toB d μ) P E) : ∃ b, d = .t (.bl b) ∧ P b μ := by
  unfold toB at h
  split at h
  · exact ⟨_, rfl, h⟩
  · exact h.elim
/-- from the value's reading to the test's -/
theorem test_ans {X : Cx} {W : WX} {t : TE} {c : Envv → M D} (h : Ans X W t c) : AnsG eqR X W (tTest t) (fun env => bnd (c env) toB) := fun σ H env μ H0 m Q rm en hs => by
  show t σ H _
  refine h.bnd rm en hs fun d μ1 v H1 H01 m1 rm1 s1 r1 en1 h1 => ?_
  obtain ⟨b, rfl, q⟩ := toB_some h1
  exact ⟨b, rep_bl.mp r1, q b H1 H01 m1 rm1 s1 rfl⟩
theorem ve_cmp {a b : Expr} {ea eb : E} {op : Cop} (ha : VE Γ k N sc a ea) (hb : VE Γ k N sc b eb) (hm : plX b = true) : VE Γ k N sc (.Compare a [copOf op] [b] pos) (.cmp op ea eb) := ⟨fun X W g =>
  let ⟨t, h1, _, h3⟩ := cmp_ans g ha hb hm
  ⟨t, h1, h3⟩⟩
theorem vt_cmp {a b : Expr} {ea eb : E} {op : Cop} (ha : VE Γ k N sc a ea) (hb : VE Γ k N sc b eb) (hm : plX b = true) : VT Γ k N sc (.Compare a [copOf op] [b] pos) (.cmp op ea eb) := ⟨fun X W g =>
  let ⟨t, _, h2, h3⟩ := cmp_ans g ha hb hm
  ⟨_, h2, test_ans h3⟩⟩
theorem lastMarks_pl {op op' : CmpOp} {b c : Expr} (h1 : plX c = true) : lastMarks [op, op'] [b, c] = false := by
  show behindInMarks op' c = false
  exact nomarkX h1
theorem chn_ans {X : Cx} {W : WX} {a b c : Expr} {ea eb ec : E} {p q : Cop} (g : Gd Γ k N sc X W) (ha : VE Γ k N sc a ea) (hb : VE Γ k N sc b eb) (hc : VE Γ k N sc c ec) (hm : plX c = true) :
    ∃ t, PE X (.Compare a [copOf p, copOf q] [b, c] pos) t ∧ PT X (.Compare a [copOf p, copOf q] [b, c] pos) (tTest t) ∧ Ans X W t (evE Γ.F (.chn p q ea eb ec)) := by
  obtain ⟨ta, pa, aa⟩ := ha.run X W g
  obtain ⟨tb, pb, ab⟩ := hb.run X W g
  obtain ⟨tc, pc, ac⟩ := hc.run X W g
  obtain ⟨r, ho, hr⟩ := opA_cmp (X := X) g.hu p
  obtain ⟨r', ho', hr'⟩ := opA_cmp (X := X) g.hu q
  refine ⟨_, pe_chain ho ho' pa pb pc (lastMarks_pl hm), pt_chain ho ho' pa pb pc (lastMarks_pl hm), fun σ H env μ H0 m Q rm en h => ?_⟩
  simp only [evE] at h
  refine aa.bnd rm en h fun d μ1 v H1 H01 m1 rm1 s1 r1 en1 h1 => ?_
  refine ab.bnd rm1 en1 h1 fun e μ2 w H2 H02 m2 rm2 s2 r2 en2 h2 => ?_
  have r1' := r1.step s2
  refine hr d e v w H2 H02 m2 μ2 _ _ _ rm2 r1' r2 (Sat.bnd h2) fun x μ3 h3 => ?_
  intro z H3 H03 m3 rm3 s3 r3
  obtain ⟨b, rfl, h4⟩ := toB_some (Sat.bnd h3)
  refine ⟨b, rep_bl.mp r3, ?_⟩
  have s23 := s2.trans s3
  have s123 := s1.trans s23
  cases b with
  | true =>
    rw [if_pos rfl] at h4 ⊢
    refine ac.bnd rm3 (en2.step s3) (h4.mono (fun _ _ z => z) fun x μ z => z.later s3) fun y μ4 u H4 H04 m4 rm4 s4 r4 en4 h5 => ?_
    exact hr' e y w u H4 H04 m4 μ4 Q _ _ rm4 (r2.step (s3.trans s4)) r4 h5 fun x μ5 q => PostE.later (Q := Q) q (s123.trans s4)
  | false =>
    rw [if_neg Bool.false_ne_true] at h4 ⊢
    exact h4 _ _ _ _ rm3 s123 (rep_bl.mpr rfl)
theorem ve_chn {a b c : Expr} {ea eb ec : E} {p q : Cop} (ha : VE Γ k N sc a ea) (hb : VE Γ k N sc b eb) (hc : VE Γ k N sc c ec) (hm : plX c = true) : VE Γ k N sc (.Compare a [copOf p, copOf q] [b, c] pos) (.chn p q ea eb ec) := ⟨fun X W g =>
  let ⟨t, h1, _, h3⟩ := chn_ans g ha hb hc hm
  ⟨t, h1, h3⟩⟩
theorem vt_chn {a b c : Expr} {ea eb ec : E} {p q : Cop} (ha : VE Γ k N sc a ea) (hb : VE Γ k N sc b eb) (hc : VE Γ k N sc c ec) (hm : plX c = true) : VT Γ k N sc (.Compare a [copOf p, copOf q] [b, c] pos) (.chn p q ea eb ec) := ⟨fun X W g =>
  let ⟨t, _, h2, h3⟩ := chn_ans g ha hb hc hm
  ⟨_, h2, test_ans h3⟩⟩
/-- the value is a bool: as a test -/
theorem vt_val {x : Expr} {e : E} (h : VE Γ k N sc x e) (hv : valX x = true) : VT Γ k N sc x e := ⟨fun X W g => by
  obtain ⟨t, h1, h2⟩ := h.run X W g
  exact ⟨_, pt_val h1 (isTrue_val hv), test_ans h2⟩⟩

/-! ### and, or, not -/
theorem ve_one {a : Expr} {ea : E} {op : BoolOp} (ha : VE Γ k N sc a ea) : VE Γ k N sc (.BoolOp op [a] pos) ea := ⟨fun X W g => by
  obtain ⟨ta, pa, aa⟩ := ha.run X W g
  exact ⟨_, pe_one pa, aa⟩⟩
theorem ve_and {a b : Expr} {rest : List Expr} {ea eb : E} (ha : VE Γ k N sc a ea) (hb : VE Γ k N sc (.BoolOp .And (b :: rest) pos) eb) : VE Γ k N sc (.BoolOp .And (a :: b :: rest) pos) (.and ea eb) := ⟨fun X W g => by
  obtain ⟨ta, pa, aa⟩ := ha.run X W g
  obtain ⟨tb, pb, ab⟩ := hb.run X W g
  refine ⟨_, pe_and pa pb, fun σ H env μ H0 m Q rm en h => ?_⟩
  simp only [evE] at h
  refine aa.bnd rm en h fun d μ1 v H1 H01 m1 rm1 s1 r1 en1 h1 => ?_
  obtain ⟨c, rfl, h2⟩ := toB_some (Sat.bnd h1)
  refine ⟨c, rep_bl.mp r1, ?_⟩
  cases c with
  | true =>
    rw [if_pos rfl] at h2 ⊢
    exact ab σ H1 env μ1 H01 m1 Q rm1 en1 (h2.mono (fun x μ2 q => PostE.later (Q := Q) q s1) fun _ _ z => z)
  | false =>
    rw [if_neg Bool.false_ne_true] at h2 ⊢
    exact h2 _ _ _ _ rm1 s1 (rep_bl.mpr rfl)⟩
theorem ve_or {a b : Expr} {rest : List Expr} {ea eb : E} (ha : VE Γ k N sc a ea) (hb : VE Γ k N sc (.BoolOp .Or (b :: rest) pos) eb) : VE Γ k N sc (.BoolOp .Or (a :: b :: rest) pos) (.or ea eb) := ⟨fun X W g => by
  obtain ⟨ta, pa, aa⟩ := ha.run X W g
  obtain ⟨tb, pb, ab⟩ := hb.run X W g
  refine ⟨_, pe_or pa pb, fun σ H env μ H0 m Q rm en h => ?_⟩
  simp only [evE] at h
  refine aa.bnd rm en h fun d μ1 v H1 H01 m1 rm1 s1 r1 en1 h1 => ?_
  obtain ⟨c, rfl, h2⟩ := toB_some (Sat.bnd h1)
  refine ⟨c, rep_bl.mp r1, ?_⟩
  cases c with
  | true =>
    rw [if_pos rfl] at h2 ⊢
    exact h2 _ _ _ _ rm1 s1 (rep_bl.mpr rfl)
  | false =>
    rw [if_neg Bool.false_ne_true] at h2 ⊢
    exact ab σ H1 env μ1 H01 m1 Q rm1 en1 (h2.mono (fun x μ2 q => PostE.later (Q := Q) q s1) fun _ _ z => z)⟩
theorem ve_not {a : Expr} {ea : E} (ha : VE Γ k N sc a ea) : VE Γ k N sc (.UnaryOp .Not a pos) (.not ea) := ⟨fun X W g => by
  obtain ⟨ta, pa, aa⟩ := ha.run X W g
  refine ⟨_, pe_not pa, fun σ H env μ H0 m Q rm en h => ?_⟩
  simp only [evE] at h
  refine aa.bnd rm en h fun d μ1 v H1 H01 m1 rm1 s1 r1 en1 h1 => ?_
  obtain ⟨c, rfl, h2⟩ := toB_some (Sat.bnd h1)
  exact ⟨c, rep_bl.mp r1, h2 _ _ _ _ rm1 s1 (rep_bl.mpr rfl)⟩⟩
theorem bnd_assoc {α β γ : Type} (x : M α) (f : α → M β) (g : β → M γ) : bnd (bnd x f) g = bnd x (fun a => bnd (f a) g) := by
  funext μ
  unfold MI.bnd
  cases x μ <;> rfl
theorem bnd_pur {α β : Type} (a : α) (f : α → M β) : bnd (pur a) f = f a := rfl
theorem bnd_ite {α β : Type} {c : Prop} [Decidable c] (x y : M α) (f : α → M β) : bnd (if c then x else y) f = if c then bnd x f else bnd y f := by
  split <;> rfl
theorem toB_bl (b : Bool) : toB (.t (.bl b)) = pur b := rfl
theorem vt_not {a : Expr} {ea : E} (ha : VT Γ k N sc a ea) : VT Γ k N sc (.UnaryOp .Not a pos) (.not ea) := ⟨fun X W g => by
  obtain ⟨ta, pa, aa⟩ := ha.run X W g
  refine ⟨_, pt_not pa, fun σ H env μ H0 m Q rm en h => ?_⟩
  simp only [evE] at h
  rw [bnd_assoc] at h
  simp only [bnd_assoc, bnd_pur, toB_bl] at h
  rw [← bnd_assoc] at h
  refine aa.bnd rm en h fun d μ1 v H1 H01 m1 rm1 s1 r1 en1 h1 => ?_
  cases r1
  exact h1 _ _ _ _ rm1 s1 rfl⟩
/-- a chain of and, or as a test -/
structure VW (Γ : Gam) (k : Nat) (N : List Str) (sc : Sco) (x : Expr) (e : E) : Prop where
  run : ∀ X W, Gd Γ k N sc X W → ∃ t, PW X x t ∧ AnsG eqR X W t (fun env => bnd (evE Γ.F e env) toB)
theorem VW.vt {x : Expr} {e : E} (h : VW Γ k N sc x e) : VT Γ k N sc x e := ⟨fun X W g =>
  let ⟨t, h1, h2⟩ := h.run X W g
  ⟨t, h1.pt, h2⟩⟩
theorem vw_and1 {a : Expr} {ea : E} (ha : VT Γ k N sc a ea) : VW Γ k N sc (.BoolOp .And [a] pos) ea := ⟨fun X W g =>
  let ⟨t, h1, h2⟩ := ha.run X W g
  ⟨t, pw_and1 h1, h2⟩⟩
theorem vw_or1 {a : Expr} {ea : E} (ha : VT Γ k N sc a ea) : VW Γ k N sc (.BoolOp .Or [a] pos) ea := ⟨fun X W g =>
  let ⟨t, h1, h2⟩ := ha.run X W g
  ⟨t, pw_or1 h1, h2⟩⟩
theorem vw_and {a b : Expr} {rest : List Expr} {ea eb : E} (ha : VT Γ k N sc a ea) (hb : VW Γ k N sc (.BoolOp .And (b :: rest) pos) eb) : VW Γ k N sc (.BoolOp .And (a :: b :: rest) pos) (.and ea eb) := ⟨fun X W g => by
  obtain ⟨ta, pa, aa⟩ := ha.run X W g
  obtain ⟨tb, pb, ab⟩ := hb.run X W g
  refine ⟨_, pw_and pa pb, fun σ H env μ H0 m Q rm en h => ?_⟩
  simp only [evE] at h
  rw [bnd_assoc] at h
  simp only [bnd_assoc, bnd_ite, bnd_pur, toB_bl] at h
  rw [← bnd_assoc] at h
  refine aa.bnd rm en h fun d μ1 v H1 H01 m1 rm1 s1 r1 en1 h1 => ?_
  cases r1
  cases d with
  | true =>
    rw [if_pos rfl] at h1 ⊢
    exact ab σ H1 env μ1 H01 m1 Q rm1 en1 (h1.mono (fun x μ2 q b H' H0' m' r s e => q b H' H0' m' r (s1.trans s) e) fun _ _ z => z)
  | false =>
    rw [if_neg Bool.false_ne_true] at h1 ⊢
    exact h1 _ _ _ _ rm1 s1 rfl⟩
theorem vw_or {a b : Expr} {rest : List Expr} {ea eb : E} (ha : VT Γ k N sc a ea) (hb : VW Γ k N sc (.BoolOp .Or (b :: rest) pos) eb) : VW Γ k N sc (.BoolOp .Or (a :: b :: rest) pos) (.or ea eb) := ⟨fun X W g => by
  obtain ⟨ta, pa, aa⟩ := ha.run X W g
  obtain ⟨tb, pb, ab⟩ := hb.run X W g
  refine ⟨_, pw_or pa pb, fun σ H env μ H0 m Q rm en h => ?_⟩
  simp only [evE] at h
  rw [bnd_assoc] at h
  simp only [bnd_assoc, bnd_ite, bnd_pur, toB_bl] at h
  rw [← bnd_assoc] at h
  refine aa.bnd rm en h fun d μ1 v H1 H01 m1 rm1 s1 r1 en1 h1 => ?_
  cases r1
  cases d with
  | true =>
    rw [if_pos rfl] at h1 ⊢
    exact h1 _ _ _ _ rm1 s1 rfl
  | false =>
    rw [if_neg Bool.false_ne_true] at h1 ⊢
    exact ab σ H1 env μ1 H01 m1 Q rm1 en1 (h1.mono (fun x μ2 q b H' H0' m' r s e => q b H' H0' m' r (s1.trans s) e) fun _ _ z => z)⟩
theorem ve_ite {c a b : Expr} {ec ea eb : E} (hc : VT Γ k N sc c ec) (ha : VE Γ k N sc a ea) (hb : VE Γ k N sc b eb) : VE Γ k N sc (.IfExp c a b pos) (.ite ec ea eb) := ⟨fun X W g => by
  obtain ⟨tc, pc, ac⟩ := hc.run X W g
  obtain ⟨ta, pa, aa⟩ := ha.run X W g
  obtain ⟨tb, pb, ab⟩ := hb.run X W g
  refine ⟨_, pe_ifExp pc pa pb, fun σ H env μ H0 m Q rm en h => ?_⟩
  simp only [evE] at h
  rw [← bnd_assoc] at h
  refine ac.bnd rm en h fun d μ1 v H1 H01 m1 rm1 s1 r1 en1 h1 => ?_
  cases r1
  cases d with
  | true =>
    rw [if_pos rfl] at h1 ⊢
    exact aa σ H1 env μ1 H01 m1 Q rm1 en1 (h1.mono (fun x μ2 q => PostE.later (Q := Q) q s1) fun _ _ z => z)
  | false =>
    rw [if_neg Bool.false_ne_true] at h1 ⊢
    exact ab σ H1 env μ1 H01 m1 Q rm1 en1 (h1.mono (fun x μ2 q => PostE.later (Q := Q) q s1) fun _ _ z => z)⟩

/-! ### lists of expressions, displays -/
theorem ves_nil : VEs Γ k N sc [] .nil := ⟨rfl, fun X W g => ⟨_, pa_nil, fun σ H env μ H0 m Q rm en h => by
  simp only [evEs] at h
  exact h [] H H0 m rm Step.refl (by simp only [reps])⟩⟩
theorem ves_cons {x : Expr} {xs : List Expr} {e : E} {es : Es} (hp : plX x = true) (ha : VE Γ k N sc x e) (hr : VEs Γ k N sc xs es) : VEs Γ k N sc (x :: xs) (.cons e es) := ⟨by simp [hp, hr.pl], fun X W g => by
  obtain ⟨ta, pa, aa⟩ := ha.run X W g
  obtain ⟨tr, pr, ar⟩ := hr.run X W g
  refine ⟨_, pa_cons pa pr (starEach_pl hp), fun σ H env μ H0 m Q rm en h => ?_⟩
  simp only [evEs] at h
  refine aa.bnd rm en h fun d μ1 v H1 H01 m1 rm1 s1 r1 en1 h1 => ?_
  refine ar.bnd rm1 en1 h1 fun ds μ2 vs H2 H02 m2 rm2 s2 r2 en2 h2 => ?_
  exact h2 (v :: vs) H2 H02 m2 rm2 (s1.trans s2) (by simp only [reps]; exact ⟨v, vs, rfl, r1.step s2, r2⟩)⟩
theorem ve_tup {xs : List Expr} {es : Es} {j : Nat} (h : VEs Γ k N sc xs es) : VE Γ k N sc (.Tuple xs j pos) (.tup es) := ⟨fun X W g => by
  obtain ⟨ta, pa, aa⟩ := h.run X W g
  refine ⟨_, pe_tup pa, fun σ H env μ H0 m Q rm en h => ?_⟩
  simp only [evE] at h
  refine aa.bnd rm en h fun ds μ1 vs H1 H01 m1 rm1 s1 r1 en1 h1 => ?_
  obtain ⟨z, q⟩ := mkTup_ok (Q := Q) rm1 r1 h1 fun d μ q => PostE.later (Q := Q) q s1
  exact ⟨by rw [← reps_len r1]; exact z, q⟩⟩
theorem ve_lst {xs : List Expr} {es : Es} {fz : Bool} (h : VEs Γ k N sc xs es) : VE Γ k N sc (.List xs pos) (.lst fz es) := ⟨fun X W g => by
  obtain ⟨ta, pa, aa⟩ := h.run X W g
  refine ⟨_, pe_lst pa, fun σ H env μ H0 m Q rm en h => ?_⟩
  simp only [evE] at h
  refine aa.bnd rm en h fun ds μ1 vs H1 H01 m1 rm1 s1 r1 en1 h1 => ?_
  obtain ⟨z, q⟩ := mkL_ok (Q := Q) rm1 r1 h1 fun d μ q => PostE.later (Q := Q) q s1
  exact ⟨by rw [← reps_len r1]; exact z, q⟩⟩
theorem ve_dnew {b : Bool} : VE Γ k N sc (.Dict [] [] pos) (.dnew b) := ⟨fun X W g => by
  cases b with
  | false =>
    refine ⟨_, pe_dnewK, fun σ H env μ H0 m Q rm en h p hp => ?_⟩
    simp only [evE] at h
    refine h (.ref p) _ H0 (m ++ [p]) (rm.newC hp ⟨rm.same.free hp, [], upd_same, rfl⟩) (Step.newC hp) ?_
    simp only [rep]
    exact ⟨p, by rw [← rm.len]; simp, rfl⟩
  | true =>
    refine ⟨_, pe_dnewT, fun σ H env μ H0 m Q rm en h p hp => ?_⟩
    simp only [evE] at h
    refine h (.ref p) _ H0 (m ++ [p]) (rm.newC hp ⟨rm.same.free hp, [], upd_same, rfl⟩) (Step.newC hp) ?_
    simp only [rep]
    exact ⟨p, by rw [← rm.len]; simp, rfl⟩⟩
theorem ve_ix {a b : Expr} {ea eb : E} (ha : VE Γ k N sc a ea) (hb : VE Γ k N sc b eb) (hp : plX b = true) : VE Γ k N sc (.Subscript a b pos) (.ix ea eb) := ⟨fun X W g => by
  obtain ⟨ta, pa, aa⟩ := ha.run X W g
  obtain ⟨tb, pb, ab⟩ := hb.run X W g
  obtain ⟨r, ho, hr⟩ := ixA (X := X) (by have := g.hu; omega)
  refine ⟨_, pe_ix ho pa pb (plainIx hp), fun σ H env μ H0 m Q rm en h => ?_⟩
  simp only [evE] at h
  refine aa.bnd rm en h fun d μ1 v H1 H01 m1 rm1 s1 r1 en1 h1 => ?_
  refine ab.bnd rm1 en1 h1 fun e μ2 w H2 H02 m2 rm2 s2 r2 en2 h2 => ?_
  exact hr d e v w H2 H02 m2 μ2 Q _ _ rm2 (r1.step s2) r2 h2 fun x μ3 q => PostE.later (Q := Q) q (s1.trans s2)⟩
structure VO (Γ : Gam) (k : Nat) (N : List Str) (sc : Sco) (x : Option Expr) (e : Eo) : Prop where
  run : ∀ X W, Gd Γ k N sc X W → ∃ t, PO X x t ∧ AnsG eqR X W t (evEo Γ.F e)
theorem vo_none : VO Γ k N sc none .none := ⟨fun X W g => ⟨_, po_none, fun σ H env μ H0 m Q rm en h => by
  simp only [evEo] at h
  exact h none H H0 m rm Step.refl rfl⟩⟩
theorem vo_some {a : Expr} {ea : E} (ha : VE Γ k N sc a ea) : VO Γ k N sc (some a) (.some ea) := ⟨fun X W g => by
  obtain ⟨ta, pa, aa⟩ := ha.run X W g
  refine ⟨_, po_some pa, fun σ H env μ H0 m Q rm en h => ?_⟩
  simp only [evEo] at h
  refine aa.bnd rm en h fun d μ1 v H1 H01 m1 rm1 s1 r1 en1 h1 => ?_
  split at h1
  · rename_i i e
    exact ⟨i, toI_int e r1, h1 _ _ _ _ rm1 s1 rfl⟩
  · exact h1.elim⟩
theorem ve_slc {a : Expr} {lo hi : Option Expr} {ea : E} {el eh : Eo} {fz : Bool} {p2 : Pos} (ha : VE Γ k N sc a ea) (hl : VO Γ k N sc lo el) (hh : VO Γ k N sc hi eh) : VE Γ k N sc (.Subscript a (.Slice lo hi none p2) pos) (.slc fz ea el eh) := ⟨fun X W g => by
  obtain ⟨ta, pa, aa⟩ := ha.run X W g
  obtain ⟨tl, pl, al⟩ := hl.run X W g
  obtain ⟨th, ph, ah⟩ := hh.run X W g
  obtain ⟨ho, hr⟩ := slcA (X := X) fz
  refine ⟨_, pe_slice ho pa pl ph, fun σ H env μ H0 m Q rm en h => ?_⟩
  simp only [evE] at h
  refine aa.bnd rm en h fun d μ1 v H1 H01 m1 rm1 s1 r1 en1 h1 => ?_
  refine al.bnd rm1 en1 h1 fun l μ2 l' H2 H02 m2 rm2 s2 r2 en2 h2 => ?_
  refine ah.bnd rm2 en2 h2 fun u μ3 u' H3 H03 m3 rm3 s3 r3 en3 h3 => ?_
  cases r2
  cases r3
  exact hr d v l u H3 H03 m3 μ3 Q _ _ rm3 (r1.step (s2.trans s3)) h3 fun x μ3 q => PostE.later (Q := Q) q (s1.trans (s2.trans s3))⟩

/-! ### calls -/
theorem pe_callS0 {X : Cx} {CX : CXT} {k : Nat} {f : Addr} {fd : FuncData} {ps : List Str} {sp : Sp} {E : L2.St → XK} {x : Str} {p pos : Pos} (F : FnOk X.prog X.w X.K X.mg X.base CX k f fd ps sp) (hr : Room k X.A) (hg : Gl X x) (hm : X.mg x = some (.ref f)) (hk : PySem.W.keepIn X.K (.ref f) = true) (hb : Binds X.K fd ps []) (hx : ∀ σ, PassesAt CX X σ (E σ))
    (hdb : (x == ("__debug__" : Str)) = false) : PE X (.Call (.Name x p) [] [] pos) (tCallS sp E tNil) := by
  refine ⟨fun pins s σ H Q I h => ?_⟩
  refine wpAny_Call_Name_kw (ld_glob I hg hm ?_ hdb)
  exact PySem.W.callWith_K0 I.kIn hk (run_fnS (us := []) F hr hb (hx σ) I .nil h)
theorem call_ans {X : Cx} {W : WX} {es : Es} {f : Nat} {t : TA} (at_ : AnsG reps X W t (evEs Γ.F es)) : Ans X W (tCallS (spF X.mg X.K Γ.F f) (WE W) t) (evE Γ.F (.call f es)) := fun σ H env μ H0 m Q rm en h => by
  simp only [evE] at h
  refine at_.bnd rm en h fun ds μ1 vs H1 H01 m1 rm1 s1 r1 en1 h1 => ?_
  exact ⟨ds, μ1, H01, m1, rm1, r1, h1.mono (fun d μ2 q => PostE.later (Q := Q) q s1) fun x μ2 q => q⟩
theorem nil_ans {X : Cx} {W : WX} : AnsG reps X W tNil (evEs Γ.F .nil) := fun σ H env μ H0 m Q rm en h => by
  simp only [evEs] at h
  exact h [] H H0 m rm Step.refl (by simp only [reps])
theorem ve_call0 {x : Str} {f : Nat} {p : Pos} (hf : Γ.fn f = some x) (hg : giB (sc.names.lookup x) = true) (hd : (x == ("__debug__" : Str)) = false) : VE Γ k N sc (.Call (.Name x p) [] [] pos) (.call f .nil) := ⟨fun X W g => by
  obtain ⟨a, fd, ps, c, hc, hm, hk, hb, F⟩ := (g.call f x hf).ok
  exact ⟨_, pe_callS0 F g.room (g.gl hg) hm hk hb (fun σ => g.tk.passAt hc σ) hd, call_ans nil_ans⟩⟩
theorem ve_call {x : Str} {e0 : Expr} {xs : List Expr} {es : Es} {f : Nat} {p : Pos} (hf : Γ.fn f = some x) (hg : giB (sc.names.lookup x) = true) (hd : (x == ("__debug__" : Str)) = false) (ha : VEs Γ k N sc (e0 :: xs) es) : VE Γ k N sc (.Call (.Name x p) (e0 :: xs) [] pos) (.call f es) := ⟨fun X W g => by
  obtain ⟨ta, pa, aa⟩ := ha.run X W g
  obtain ⟨a, fd, ps, c, hc, hm, hk, hb, F⟩ := (g.call f x hf).ok
  have hp := ha.pl
  simp only [List.all_cons, Bool.and_eq_true] at hp
  exact ⟨_, pe_callS F g.room (g.gl hg) hm hk hb (fun σ => g.tk.passAt hc σ) pa hd (starEach_pl hp.1) (starEach_any hp.2), call_ans aa⟩⟩

/-! ### built-in functions -/
def bfnN : Bfn → Str × Value
  | .len => ("len", .builtin "len") | .list => ("list", .type "list") | .min2 => ("min", .builtin "min") | .max2 => ("max", .builtin "max")
  | .sum => ("sum", .builtin "sum") | .all => ("all", .builtin "all") | .sorted => ("sorted", .builtin "sorted") | .int1 => ("int", .type "int") | .tup1 => ("tuple", .type "tuple")
theorem bfn_boot (b : Bfn) : bootBuiltins (bfnN b).1 = some (bfnN b).2 ∧ (bfnN b).1 ≠ "__name__" ∧ ((bfnN b).1 == ("__debug__" : Str)) = false := by
  cases b <;> decide +kernel
theorem seq_of {K : PySem.W.Frag} {H H0 : Hp} {m : List Addr} {μ : Mem} {d : D} {v : V} {l : List D} (rm : RelM K H H0 m μ) (r : rep K H0 m d v) (h : (match lstOf μ d with | some l => some l | none => tupOf d) = some l) : ∃ a vs, v = .ref a ∧ (SqL K H a vs ∨ SqT K H a vs) ∧ reps K H0 m l vs := by
  cases e : lstOf μ d with
  | some l' =>
    rw [e] at h
    cases h
    obtain ⟨a, vs, rfl, h1, h2⟩ := rm.lst r e
    exact ⟨a, vs, rfl, .inl h1, h2⟩
  | none =>
    rw [e] at h
    obtain ⟨a, vs, rfl, h1, h2⟩ := rm.tup r h
    exact ⟨a, vs, rfl, .inr (.of h1), h2⟩
theorem reps_keys {K : PySem.W.Frag} {H : Hp} {m : List Addr} : ∀ {kds : List (Key × D)} {kvs : List (Key × V)}, repK K H m kds kvs → reps K H m (kds.map fun p => kD p.1) (kvs.map fun p => kV p.1)
  | [], _, h => by
    subst h
    simp only [List.map_nil, reps]
  | (k, d) :: kds, _, h => by
    obtain ⟨v, r, rfl, _, h2⟩ := h
    simp only [List.map_cons, reps]
    refine ⟨_, _, rfl, ?_, reps_keys h2⟩
    cases k with
    | inl i => exact rep_int.mpr rfl
    | inr x => exact rep_str.mpr rfl
theorem sortI_ins (x : Int) : ∀ ys, (insI x ys).Perm (x :: ys)
  | [] => .refl _
  | y :: ys => by
    unfold insI
    split
    · exact .refl _
    · exact ((sortI_ins x ys).cons y).trans (.swap x y ys)
theorem sortI_perm : ∀ xs, (sortI xs).Perm xs
  | [] => .refl _
  | x :: xs => (sortI_ins x _).trans ((sortI_perm xs).cons x)
theorem insI_sorted (x : Int) : ∀ {ys}, List.Pairwise (· ≤ ·) ys → List.Pairwise (· ≤ ·) (insI x ys)
  | [], _ => by simp [insI]
  | y :: ys, h => by
    unfold insI
    rw [List.pairwise_cons] at h
    split
    · rename_i hl
      rw [List.pairwise_cons, List.pairwise_cons]
      refine ⟨fun z hz => ?_, h⟩
      rcases List.mem_cons.mp hz with rfl | hz
      · exact hl
      · exact Int.le_trans hl (h.1 z hz)
    · rename_i hl
      rw [List.pairwise_cons]
      refine ⟨fun z hz => ?_, insI_sorted x h.2⟩
      rcases List.mem_cons.mp ((sortI_ins x ys).subset hz) with rfl | hz
      · omega
      · exact h.1 z hz
theorem sortI_sorted : ∀ xs, List.Pairwise (· ≤ ·) (sortI xs)
  | [] => .nil
  | x :: xs => insI_sorted x (sortI_sorted xs)
theorem sorted_eq : ∀ {xs ys : List Int}, xs.Perm ys → List.Pairwise (· ≤ ·) xs → List.Pairwise (· ≤ ·) ys → xs = ys := fun p h1 h2 => p.eq_of_pairwise (fun a b _ _ h h' => Int.le_antisymm h h') h1 h2
theorem lexP_no {p q : Int × Int} : lexP p q = false ↔ ¬ (p.1 < q.1 ∨ (p.1 = q.1 ∧ p.2 < q.2)) := SrtO.lexB_no
theorem lexP_yes {p q : Int × Int} : lexP p q = true ↔ (p.1 < q.1 ∨ (p.1 = q.1 ∧ p.2 < q.2)) := SrtO.lexB_iff
theorem insP_perm (x : Int × Int) : ∀ ys, (insP x ys).Perm (x :: ys)
  | [] => .refl _
  | y :: ys => by
    unfold insP
    split
    · exact ((insP_perm x ys).cons y).trans (.swap x y ys)
    · exact .refl _
theorem sortP_perm : ∀ xs, (sortP xs).Perm xs
  | [] => .refl _
  | x :: xs => (insP_perm x _).trans ((sortP_perm xs).cons x)
theorem insP_sorted (x : Int × Int) : ∀ {ys : List (Int × Int)}, ys.Pairwise (fun a b => lexP b a = false) → (insP x ys).Pairwise (fun a b => lexP b a = false)
  | [], _ => by simp [insP]
  | y :: ys, h => by
    unfold insP
    rw [List.pairwise_cons] at h
    split
    · rename_i hl
      have hl := lexP_yes.mp hl
      rw [List.pairwise_cons]
      refine ⟨fun z hz => ?_, insP_sorted x h.2⟩
      rcases List.mem_cons.mp ((insP_perm x ys).subset hz) with e | hz
      · rw [e]; exact lexP_no.mpr (by omega)
      · exact h.1 z hz
    · rename_i hl
      have hl := lexP_no.mp (Bool.not_eq_true _ ▸ hl)
      rw [List.pairwise_cons, List.pairwise_cons]
      refine ⟨fun z hz => ?_, h⟩
      rcases List.mem_cons.mp hz with e | hz
      · rw [e]; exact lexP_no.mpr (by omega)
      · have := lexP_no.mp (h.1 z hz)
        exact lexP_no.mpr (by omega)
theorem sortP_sorted : ∀ xs, (sortP xs).Pairwise (fun a b => lexP b a = false)
  | [] => .nil
  | x :: xs => insP_sorted x (sortP_sorted xs)
theorem sortedP_eq {xs ys : List (Int × Int)} (p : xs.Perm ys) (h1 : xs.Pairwise (fun a b => lexP b a = false)) (h2 : ys.Pairwise (fun a b => lexP b a = false)) : xs = ys := p.eq_of_pairwise (fun a b _ _ h h' => by
  have := lexP_no.mp h
  have := lexP_no.mp h'
  exact Prod.ext (by omega) (by omega)) h1 h2
def kOf (H : Hp) : V → Int × Int
  | .ref t => match H t with
    | some (.tup [.int i, .int j]) => (i, j)
    | _ => (0, 0)
  | _ => (0, 0)
theorem prs_ok {K : PySem.W.Frag} {H H0 : Hp} {m : List Addr} (s : Same H0 H) : ∀ {l : List D} {vs : List V} {ps : List (Int × Int)}, reps K H0 m l vs → toPrs l = some ps →
    vs.map (kOf H) = ps ∧ ∀ v ∈ vs, ∃ t, v = .ref t ∧ H0 t = some (.tup [.int (kOf H v).1, .int (kOf H v).2])
  | [], vs, ps, r, h => by
    simp only [reps] at r
    simp only [toPrs] at h
    cases h
    subst r
    exact ⟨rfl, fun v hv => by cases hv⟩
  | d :: l, vs, ps, r, h => by
    simp only [reps] at r
    obtain ⟨v, q, rfl, r1, r2⟩ := r
    simp only [toPrs] at h
    split at h
    · rename_i p ps' e1 e2
      cases h
      obtain ⟨i1, i2⟩ := prs_ok s r2 e2
      unfold toPr at e1
      split at e1
      · rename_i i j
        cases e1
        simp only [rep, repT, repTs] at r1
        obtain ⟨a, vs, rfl, h1, v1, w1, rfl, rfl, v2, w2, rfl, rfl, rfl⟩ := r1
        have ek : kOf H (.ref a) = (i, j) := by simp only [kOf, s _ _ h1]
        refine ⟨by rw [List.map_cons, i1, ek], fun v hv => ?_⟩
        rcases List.mem_cons.mp hv with e | hv
        · rw [e, ek]; exact ⟨a, rfl, h1⟩
        · exact i2 v hv
      · cases e1
    · cases h
theorem prs_dps {K : PySem.W.Frag} {H H0 : Hp} {m : List Addr} (s : Same H0 H) : ∀ {l : List D} {vs : List V} {ps : List (Int × Int)}, reps K H0 m l vs → toPrs l = some ps → DpAll K H vs (ps.map fun p => PyData.tuple [.int p.1, .int p.2])
  | [], vs, ps, r, h => by
    simp only [reps] at r
    subst r
    cases h
    exact .nil
  | d :: l, vs, ps, r, h => by
    simp only [reps] at r
    obtain ⟨v, q, rfl, r1, r2⟩ := r
    unfold toPrs at h
    split at h
    · rename_i p ps' e1 e2
      cases h
      unfold toPr at e1
      split at e1
      · rename_i i j
        cases e1
        exact .cons (dp_of rfl (repT.mono s (show repT K H0 (.tup [.int i, .int j]) v from by simpa only [rep] using r1))) (prs_dps s r2 e2)
      · cases e1
    · cases h
theorem plain_prs : ∀ ps : List (Int × Int), PyData.plainAll (ps.map fun p => PyData.tuple [.int p.1, .int p.2]) = true
  | [] => rfl
  | p :: ps => by
    have := plain_prs ps
    simp only [List.map_cons, PyData.plainAll, this, Bool.and_true]
    rfl
theorem place_prs (ps : List (Int × Int)) (i j : Int) : SeqAt.dataPlace (ps.map fun p => PyData.tuple [.int p.1, .int p.2]) (.tuple [.int i, .int j]) = ps.findIdx? (fun p => decide (p = (i, j))) := by
  unfold SeqAt.dataPlace
  rw [List.findIdx?_map]
  congr 1
  funext p
  obtain ⟨a, b⟩ := p
  have e : PyData.eqv (.tuple [.int a, .int b]) (.tuple [.int i, .int j]) = ((a == i) && ((b == j) && true)) := rfl
  show PyData.eqv (.tuple [.int a, .int b]) (.tuple [.int i, .int j]) = _
  rw [e, Bool.eq_iff_iff]
  simp
theorem prs_rep {K : PySem.W.Frag} {H0 : Hp} {m : List Addr} {k : V → Int × Int} : ∀ {ys : List V}, (∀ v ∈ ys, ∃ t, v = .ref t ∧ H0 t = some (.tup [.int (k v).1, .int (k v).2])) → reps K H0 m ((ys.map k).map fun p => D.t (.tup [.int p.1, .int p.2])) ys
  | [], _ => by simp only [List.map_nil, reps]
  | y :: ys, h => by
    simp only [List.map_cons, reps]
    refine ⟨y, ys, rfl, ?_, prs_rep fun v hv => h v (List.mem_cons_of_mem _ hv)⟩
    obtain ⟨t, e, h1⟩ := h y (List.mem_cons_self ..)
    simp only [rep, repT, repTs]
    exact ⟨t, _, e, h1, _, _, rfl, rfl, _, _, rfl, rfl, rfl⟩
theorem bfnA {X : Cx} {W : WX} (g : Gd Γ k N sc X W) (fz : Bool) (b : Bfn) : ∃ r, CallR X (bfnN b).2 r ∧ ∀ (ds : List D) (vs : List V) (H H0 : Hp) (m : List Addr) (μ : Mem) (Q : VK) (P : D → Mem → Prop) (E : Exn → Mem → Prop),
    RelM X.K H H0 m μ → reps X.K H0 m ds vs → Sat (bfnD fz b ds μ) P E → (∀ d μ, P d μ → PostE X.K Q H H0 m d μ) → r vs H Q := by
  cases b with
  | len =>
    refine ⟨_, CallR.or call_len_str (CallR.or call_len_seq call_lenD), fun ds vs H H0 m μ Q P E rm r h hP => ?_⟩
    unfold bfnD at h
    split at h
    · rename_i x _
      simp only [reps] at r
      obtain ⟨v, _, rfl, r, rfl⟩ := r
      split at h
      · rename_i hz
        exact .inl ⟨x, by rw [rep_str.mp r], hz, (hP _ _ h).scal rm (rep_int.mpr rfl)⟩
      · exact h.elim
    · rename_i d _ _
      simp only [reps] at r
      obtain ⟨v, _, rfl, r, rfl⟩ := r
      split at h
      · rename_i l e
        obtain ⟨a, vs, rfl, h1, r1⟩ := seq_of rm r e
        exact .inr (.inl ⟨a, vs, rfl, h1, (hP _ _ h).scal rm (rep_int.mpr (by rw [reps_len r1]))⟩)
      · split at h
        · rename_i l e
          obtain ⟨a, kvs, rfl, h1, r1⟩ := rm.dct r e
          exact .inr (.inr ⟨a, kvs, rfl, h1, (hP _ _ h).scal rm (rep_int.mpr (by rw [repK_len r1]))⟩)
        · exact h.elim
    all_goals first | exact h.elim | (rename_i z; cases z)
  | list =>
    refine ⟨_, CallR.or call_list_of (call_list_dK g.calm), fun ds vs H H0 m μ Q P E rm r h hP => ?_⟩
    unfold bfnD at h
    split at h
    any_goals (rename_i z; cases z; done)
    all_goals first | exact h.elim | skip
    rename_i d _
    simp only [reps] at r
    obtain ⟨v, _, rfl, r, rfl⟩ := r
    split at h
    · rename_i l e
      obtain ⟨a, vs, rfl, h1, r1⟩ := seq_of rm r e
      exact .inl ⟨a, vs, rfl, h1, (mkL_ok (Q := Q) rm r1 h hP).2⟩
    · split at h
      · rename_i kds e
        obtain ⟨a, kvs, rfl, h1, r1⟩ := rm.dct r e
        exact .inr ⟨a, kvs, rfl, h1, (mkL_ok (Q := Q) rm (reps_keys r1) h hP).2⟩
      · exact h.elim
  | min2 =>
    refine ⟨_, call_min2 g.calm, fun ds vs H H0 m μ Q P E rm r h hP => ?_⟩
    unfold bfnD at h
    split at h
    any_goals (rename_i z; cases z; done)
    all_goals first | exact h.elim | skip
    rename_i x y _
    simp only [reps] at r
    obtain ⟨v, _, rfl, r1, w, _, rfl, r2, rfl⟩ := r
    split at h
    · rename_i i j e1 e2
      exact ⟨i, j, by rw [toI_int e1 r1, toI_int e2 r2], (hP _ _ h).scal rm (rep_int.mpr rfl)⟩
    · exact h.elim
  | max2 =>
    refine ⟨_, call_max2 g.calm, fun ds vs H H0 m μ Q P E rm r h hP => ?_⟩
    unfold bfnD at h
    split at h
    any_goals (rename_i z; cases z; done)
    all_goals first | exact h.elim | skip
    rename_i x y _
    simp only [reps] at r
    obtain ⟨v, _, rfl, r1, w, _, rfl, r2, rfl⟩ := r
    split at h
    · rename_i i j e1 e2
      exact ⟨i, j, by rw [toI_int e1 r1, toI_int e2 r2], (hP _ _ h).scal rm (rep_int.mpr rfl)⟩
    · exact h.elim
  | sum =>
    refine ⟨_, cr_sum g.calm, fun ds vs H H0 m μ Q P E rm r h hP => ?_⟩
    unfold bfnD at h
    split at h
    any_goals (rename_i z; cases z; done)
    all_goals first | exact h.elim | skip
    rename_i d _
    simp only [reps] at r
    obtain ⟨v, _, rfl, r, rfl⟩ := r
    split at h
    · rename_i ns e
      obtain ⟨l, e1, e2⟩ := Option.bind_eq_some_iff.mp e
      obtain ⟨a, vs, rfl, h1, r1⟩ := rm.lst r e1
      rw [reps_ints r1 e2] at h1
      exact ⟨a, ns, rfl, h1, (hP _ _ h).scal rm (rep_int.mpr rfl)⟩
    · exact h.elim
  | all =>
    refine ⟨_, cr_all g.calm, fun ds vs H H0 m μ Q P E rm r h hP => ?_⟩
    unfold bfnD at h
    split at h
    any_goals (rename_i z; cases z; done)
    all_goals first | exact h.elim | skip
    rename_i d _
    simp only [reps] at r
    obtain ⟨v, _, rfl, r, rfl⟩ := r
    split at h
    · rename_i ns e
      obtain ⟨l, e1, e2⟩ := Option.bind_eq_some_iff.mp e
      obtain ⟨a, vs, rfl, h1, r1⟩ := rm.lst r e1
      rw [reps_bls r1 e2] at h1
      exact ⟨a, ns, rfl, h1, (hP _ _ h).scal rm (rep_bl.mpr rfl)⟩
    · exact h.elim
  | sorted =>
    refine ⟨_, CallR.or cr_sortedI cr_sortedPO, fun ds vs H H0 m μ Q P E rm r h hP => ?_⟩
    unfold bfnD at h
    split at h
    any_goals (rename_i z; cases z; done)
    all_goals first | exact h.elim | skip
    rename_i d _
    simp only [reps] at r
    obtain ⟨v, _, rfl, r, rfl⟩ := r
    split at h
    · rename_i ns e
      obtain ⟨l, e1, e2⟩ := Option.bind_eq_some_iff.mp e
      obtain ⟨a, vs, rfl, h1, r1⟩ := rm.lst r e1
      rw [reps_ints r1 e2] at h1
      refine .inl ⟨a, ns, rfl, h1, fun ns' p hp hs hn => ?_⟩
      have e3 : ns' = sortI ns := sorted_eq (hp.trans (sortI_perm ns).symm) hs (sortI_sorted ns)
      rw [e3]
      exact (mkL_ok (Q := Q) rm (reps_of_ints _) h hP).2 p hn
    · split at h
      · rename_i ps e
        obtain ⟨l, e1, e2⟩ := Option.bind_eq_some_iff.mp e
        obtain ⟨a, vs, rfl, h1, r1⟩ := rm.lst r e1
        obtain ⟨i1, i2⟩ := prs_ok rm.same r1 e2
        refine .inr ⟨a, vs, kOf H, rfl, h1, fun x hx => ?_, fun ys p hs hb hn => ?_⟩
        · obtain ⟨t, e, ht⟩ := i2 x hx
          exact ⟨t, e, rm.same _ _ ht⟩
        · have e3 : ys.map (kOf H) = sortP ps := by
            refine sortedP_eq ?_ ?_ (sortP_sorted ps)
            · have := hb.perm.map (kOf H)
              rw [i1] at this
              exact this.trans (sortP_perm ps).symm
            · exact List.pairwise_map.mpr hs
          have r3 := prs_rep (K := X.K) (H0 := H0) (m := m) (k := kOf H) (ys := ys) fun v hv => i2 v (hb.perm.subset hv)
          rw [e3] at r3
          exact (mkL_ok (Q := Q) rm r3 h hP).2 p hn
      · exact h.elim
  | int1 =>
    refine ⟨_, call_int1, fun ds vs H H0 m μ Q P E rm r h hP => ?_⟩
    unfold bfnD at h
    split at h
    any_goals (rename_i z; cases z; done)
    all_goals first | exact h.elim | skip
    · rename_i i _
      simp only [reps] at r
      obtain ⟨v, _, rfl, r, rfl⟩ := r
      exact .inl ⟨i, by rw [rep_int.mp r], (hP _ _ h).scal rm (rep_int.mpr rfl)⟩
    · rename_i i _
      simp only [reps] at r
      obtain ⟨v, _, rfl, r, rfl⟩ := r
      exact .inr ⟨i, by rw [rep_bl.mp r], (hP _ _ h).scal rm (rep_int.mpr rfl)⟩
  | tup1 =>
    refine ⟨_, call_tuple_of, fun ds vs H H0 m μ Q P E rm r h hP => ?_⟩
    unfold bfnD at h
    split at h
    any_goals (rename_i z; cases z; done)
    all_goals first | exact h.elim | skip
    rename_i d _
    simp only [reps] at r
    obtain ⟨v, _, rfl, r, rfl⟩ := r
    split at h
    · rename_i l e
      obtain ⟨a, vs, rfl, h1, r1⟩ := rm.lst r e
      exact ⟨a, vs, rfl, .inl ⟨h1, (mkTup_ok (Q := Q) rm r1 h hP).2⟩⟩
    · exact h.elim
theorem ve_bfn {x : Str} {e0 : Expr} {xs : List Expr} {es : Es} {b : Bfn} {fz : Bool} {p : Pos} (hx : x = (bfnN b).1) (hb : x ∈ Γ.blts) (hg : giB (sc.names.lookup x) = true) (ha : VEs Γ k N sc (e0 :: xs) es) : VE Γ k N sc (.Call (.Name x p) (e0 :: xs) [] pos) (.bfn fz b es) := ⟨fun X W g => by
  obtain ⟨ta, pa, aa⟩ := ha.run X W g
  have hp := ha.pl
  simp only [List.all_cons, Bool.and_eq_true] at hp
  obtain ⟨r, ho, hr⟩ := bfnA g fz b
  have fin : Ans X W (tCB r ta) (evE Γ.F (.bfn fz b es)) := fun σ H env μ H0 m Q rm en h => by
    simp only [evE] at h
    refine aa.bnd rm en h fun ds μ1 vs H1 H01 m1 rm1 s1 r1 en1 h1 => ?_
    exact hr ds vs H1 H01 m1 μ1 Q _ _ rm1 r1 h1 fun x μ3 q => PostE.later (Q := Q) q s1
  obtain ⟨h1, h2, h3⟩ := bfn_boot b
  subst hx
  have hm := g.blt _ hb
  cases hv : (bfnN b).2 with
  | builtin id => exact ⟨_, pe_callB (by rw [← hv]; exact ho) (g.gl hg) hm (by rw [h1, hv]) pa h2 h3 (starEach_pl hp.1) (starEach_any hp.2), fin⟩
  | type T => exact ⟨_, pe_callTy (by rw [← hv]; exact ho) (g.gl hg) hm (by rw [h1, hv]) pa h2 h3 (starEach_pl hp.1) (starEach_any hp.2), fin⟩
  | _ => exfalso; cases b <;> exact nomatch hv⟩

/-- sorted(x, reverse=True) -/
theorem ve_srev {x : Str} {a : Expr} {ea : E} {fz : Bool} {p tp kp : Pos} {j : Nat} (hx : x = ("sorted" : Str)) (hb : ("sorted" : Str) ∈ Γ.blts) (hg : giB (sc.names.lookup ("sorted" : Str)) = true) (hp : plX a = true) (ha : VE Γ k N sc a ea) :
    VE Γ k N sc (.Call (.Name x p) [a] [⟨some (Str.ofString "reverse"), .Constant (.bool true) j tp, kp⟩] pos) (.srev fz ea) := ⟨fun X W g => by
  obtain ⟨ta, pa, aa⟩ := ha.run X W g
  subst hx
  have hm := g.blt _ hb
  have ho : CallRK X (.builtin "sorted") [Str.ofString "reverse"] (fun vs zs H Q => rSortedKw X.K true [.bl true] vs zs H Q ∨ rSortedPR X.K vs zs H Q) := fun pins s σ H vs zs us ws Q I r rz h => by
    rcases h with h | h
    · exact cr_sortedRev pins s σ H vs zs us ws Q I r rz h
    · exact cr_sortedPR pins s σ H vs zs us ws Q I r rz h
  refine ⟨_, pe_callBK ho (g.gl hg) hm PyProof.Rows.Boot.«sorted» (pa_cons pa pa_nil (starEach_pl hp)) (pk_cons (te := fun σ H Q => Q (.bl true) H) pe_bl pk_nil) (by decide) (by decide) ?_ ?_, fun σ H env μ H0 m Q rm en h => ?_⟩
  · have := starEach_pl (es := []) (env := X.env) hp
    unfold backTo
    rw [this]
    rfl
  · exact starEach_any (by simp [hp])
  · simp only [evE] at h
    show ta σ H _
    refine aa.bnd rm en h fun d μ1 v H1 H01 m1 rm1 s1 r1 en1 h1 => ?_
    have hP : ∀ d μ, PostE X.K Q H H0 m d μ → PostE X.K Q H1 H01 m1 d μ := fun x μ3 q => PostE.later (Q := Q) q s1
    unfold srevD at h1
    split at h1
    · rename_i ns e
      obtain ⟨l, e1, e2⟩ := Option.bind_eq_some_iff.mp e
      obtain ⟨b, vs, rfl, h2, r2⟩ := rm1.lst r1 e1
      rw [reps_ints r2 e2] at h2
      refine .inl ⟨b, ns, rfl, rfl, h2, fun ns' p hp' hs hn => ?_⟩
      have e3 : ns' = (sortI ns).reverse := by
        have hs' : ns'.Pairwise (· ≥ ·) := hs
        have h3 : ns'.reverse = sortI ns := sorted_eq ((List.reverse_perm _).trans (hp'.trans (sortI_perm ns).symm)) (List.pairwise_reverse.mpr hs') (sortI_sorted ns)
        rw [← h3, List.reverse_reverse]
      rw [e3]
      exact (mkL_ok (Q := Q) rm1 (reps_of_ints _) h1 hP).2 p hn
    · split at h1
      · rename_i ps e
        obtain ⟨l, e1, e2⟩ := Option.bind_eq_some_iff.mp e
        obtain ⟨b, vs, rfl, h2, r2⟩ := rm1.lst r1 e1
        obtain ⟨i1, i2⟩ := prs_ok rm1.same r2 e2
        refine .inr ⟨b, vs, kOf H1, rfl, rfl, h2, fun x hx => ?_, fun ys p hs hb hn => ?_⟩
        · obtain ⟨t, e, ht⟩ := i2 x hx
          exact ⟨t, e, rm1.same _ _ ht⟩
        · have e3 : ys.map (kOf H1) = sortP ps := by
            refine sortedP_eq ?_ ?_ (sortP_sorted ps)
            · have := hb.map (kOf H1)
              rw [i1] at this
              exact this.trans (sortP_perm ps).symm
            · exact List.pairwise_map.mpr hs
          have r3 := prs_rep (K := X.K) (H0 := H01) (m := m1) (k := kOf H1) (ys := ys.reverse) fun v hv => i2 v (hb.subset (List.mem_reverse.mp hv))
          rw [List.map_reverse, e3] at r3
          exact (mkL_ok (Q := Q) rm1 r3 h1 hP).2 p hn
      · exact h1.elim⟩
/-! ### isinstance -/
def tyN : Ty → String
  | .non => "NoneType" | .bl => "bool" | .int => "int" | .str => "str" | .lst => "list" | .tup => "tuple" | .dct => "dict"
def isK : Ty → Bool
  | .non => false
  | _ => true
theorem kit_tab (n k : Ty) (h : isK k = true) : kitB (tyN n) (tyN k) = some (isB n k) := by
  cases n <;> cases k <;> first | (cases h; done) | decide +kernel
theorem is_boot (k : Ty) (h : isK k = true) : bootBuiltins (Str.ofString (tyN k)) = some (.type (tyN k)) ∧ (Str.ofString (tyN k)) ≠ "__name__" ∧ ((Str.ofString (tyN k)) == ("__debug__" : Str)) = false := by
  cases k <;> first | (cases h; done) | decide +kernel
theorem tyOf_ok {K : PySem.W.Frag} {H H0 : Hp} {m : List Addr} {μ : Mem} {d : D} {v : V} {n : Ty} (rm : RelM K H H0 m μ) (r : rep K H0 m d v) (h : tyOf μ d = some n) : TyX K H v (.type (tyN n)) := by
  unfold tyOf at h
  split at h
  · cases h; rw [rep_non.mp r]; exact .base .non
  · cases h; rw [rep_bl.mp r]; exact .base (.bl _)
  · cases h; rw [rep_int.mp r]; exact .base (.int _)
  · cases h; rw [rep_str.mp r]; exact .base (.str _)
  · cases h; simp only [rep, repT] at r; obtain ⟨a, vs, rfl, h1, _⟩ := r; exact .base (.lst (rm.same _ _ h1))
  · cases h; simp only [rep, repT] at r; obtain ⟨a, vs, rfl, h1, _⟩ := r; exact .base (.tup (rm.same _ _ h1))
  · cases h; simp only [rep, repT] at r; obtain ⟨a, vs, rfl, h1, _⟩ := r; exact .base (.dK (rm.same _ _ h1))
  · cases h; simp only [rep, repT] at r; obtain ⟨a, vs, rfl, h1, _⟩ := r; exact .base (.dT (rm.same _ _ h1))
  · cases h
  · cases h; simp only [rep] at r; obtain ⟨a, vs, rfl, h1, _⟩ := r; exact .base (.tup (rm.same _ _ h1))
  · simp only [rep] at r
    obtain ⟨a, h1, rfl⟩ := r
    split at h
    · rename_i h2; cases h; obtain ⟨_, vs, h3, _⟩ := rm.ref h1 h2; exact .base (.lst h3)
    · rename_i h2; cases h; obtain ⟨_, vs, h3, _⟩ := rm.ref h1 h2; exact .base (.dK h3)
    · rename_i h2; cases h; obtain ⟨_, vs, h3, _⟩ := rm.ref h1 h2; exact .base (.dT h3)
    · cases h
theorem ve_isi {a : Expr} {ea : E} {kn : Ty} {p p2 : Pos} (hp : plX a = true) (hk : isK kn = true) (hb1 : ("isinstance" : Str) ∈ Γ.blts) (hb2 : Str.ofString (tyN kn) ∈ Γ.blts) (hg1 : giB (sc.names.lookup ("isinstance" : Str)) = true) (hg2 : giB (sc.names.lookup (Str.ofString (tyN kn))) = true)
    (ha : VE Γ k N sc a ea) : VE Γ k N sc (.Call (.Name "isinstance" p) [a, .Name (Str.ofString (tyN kn)) p2] [] pos) (.isi ea [kn]) := ⟨fun X W g => by
  obtain ⟨ta, pa, aa⟩ := ha.run X W g
  obtain ⟨b1, b2, b3⟩ := is_boot kn hk
  have pk : PE X (.Name (Str.ofString (tyN kn)) p2) (tC (.ty (tyN kn))) := pe_bltn (g.gl hg2) (g.blt _ hb2) b1 rfl b2 b3
  refine ⟨_, pe_callB call_isi (g.gl hg1) (g.blt _ hb1) PyProof.Rows.boot_isinstance (pa_cons pa (pa_cons pk pa_nil (starEach_pl rfl)) (starEach_pl hp)) (by decide) (by decide) (starEach_pl hp) (starEach_any rfl), fun σ H env μ H0 m Q rm en h => ?_⟩
  simp only [evE] at h
  refine aa.bnd rm en h fun d μ1 v H1 H01 m1 rm1 s1 r1 en1 h1 => ?_
  unfold isiD at h1
  split at h1
  · rename_i n e
    have t2 := tyOf_ok rm1 r1 e
    refine ⟨v, .ty (tyN kn), .type (tyN n), .type (tyN kn), isB n kn, rfl, .ty _, t2, kit_ty (kit_tab n kn hk), ?_⟩
    exact h1 _ _ _ _ rm1 s1 (rep_bl.mpr (by simp [isAny]))
  · exact h1.elim⟩

/-! ### methods -/
theorem tyChk_ok {n : Ty} {x : D} {μ : Mem} {P : Unit → Mem → Prop} {E : Exn → Mem → Prop} (h : Sat (tyChk n x μ) P E) : tyOf μ x = some n ∧ P () μ := by
  unfold tyChk at h
  split at h
  · exact ⟨by assumption, h⟩
  · exact h.elim
theorem tyV_ok {K : PySem.W.Frag} {H H0 : Hp} {m : List Addr} {μ : Mem} {d : D} {v : V} {n : Ty} (rm : RelM K H H0 m μ) (r : rep K H0 m d v) (h : tyOf μ d = some n) (hn : n = .lst ∨ n = .str ∨ n = .dct) : tyV K (tyN n) v H := by
  unfold tyOf at h
  split at h
  · cases h; simp at hn
  · cases h; simp at hn
  · cases h; simp at hn
  · cases h; rw [rep_str.mp r]; rfl
  · cases h; simp only [rep, repT] at r; obtain ⟨a, vs, rfl, h1, _⟩ := r; exact .inl ⟨rfl, _, .of (rm.same _ _ h1)⟩
  · cases h; simp at hn
  · cases h; simp only [rep, repT] at r; obtain ⟨a, vs, rfl, h1, _⟩ := r; exact .inr (.inr (.inl ⟨rfl, .inl ⟨_, rm.same _ _ h1⟩⟩))
  · cases h; simp only [rep, repT] at r; obtain ⟨a, vs, rfl, h1, _⟩ := r; exact .inr (.inr (.inl ⟨rfl, .inr ⟨_, rm.same _ _ h1⟩⟩))
  · cases h
  · cases h; simp at hn
  · simp only [rep] at r
    obtain ⟨a, h1, rfl⟩ := r
    split at h
    · rename_i h2; cases h; obtain ⟨_, vs, h3, _⟩ := rm.ref h1 h2; exact .inl ⟨rfl, _, .of h3⟩
    · rename_i h2; cases h; obtain ⟨_, vs, h3, _⟩ := rm.ref h1 h2; exact .inr (.inr (.inl ⟨rfl, .inl ⟨_, h3⟩⟩))
    · rename_i h2; cases h; obtain ⟨_, vs, h3, _⟩ := rm.ref h1 h2; exact .inr (.inr (.inl ⟨rfl, .inr ⟨_, h3⟩⟩))
    · cases h
/-- a method's call by values -/
def MthA (X : Cx) (m : Mth) (id : String) : Prop := ∃ r, MtR X id r ∧ ∀ (x : D) (v : V) (ds : List D) (vs : List V) (H H0 : Hp) (mm : List Addr) (μ : Mem) (Q : VK) (P : D → Mem → Prop) (E : Exn → Mem → Prop),
  RelM X.K H H0 mm μ → rep X.K H0 mm x v → reps X.K H0 mm ds vs → Sat (mthD m x ds μ) P E → (∀ d μ, P d μ → PostE X.K Q H H0 mm d μ) → r v vs H Q
theorem few_pl {env : Env} {pos : Pos} {es : List Expr} (h : es.all plX = true) (hn : es.length < 30) : ((backTo pos (starEach es env)).all (fun x => !x.1) && (backToKw pos (keywordEach [] env)).all (fun x => x.1.isSome)
      && decide (es.length + ([] : List Keyword).length + (if ([] : List Keyword).isEmpty then 0 else 1) < 30)) = true := by
  have h1 := starEach_any (env := env) (pos := pos) h
  have h2 : (backTo pos (starEach es env)).all (fun x => !x.1) = true := by
    rw [List.all_eq_not_any_not]
    simp only [Bool.not_not, Bool.not_eq_true', h1]
  rw [h2]
  simp only [Bool.true_and, Bool.and_eq_true, decide_eq_true_eq]
  exact ⟨rfl, by simpa using hn⟩
def mthI : Mth → Str × String
  | .append => ("append", "list.append") | .pop => ("pop", "list.pop") | .clear => ("clear", "list.clear") | .remove => ("remove", "list.remove") | .insert => ("insert", "list.insert") | .extend => ("extend", "list.extend")
  | .dget => ("get", "dict.get") | .dclear => ("clear", "dict.clear") | .dupd => ("update", "dict.update")
structure MthF (T : Ty) (nm : Str) (id : String) : Prop where
  pa : PlainAttrs (tyN T)
  slot : Slot (tyN T) nm id
  hty : typeOf (.builtin id) = pure (.type "method_descriptor")
  ht : T = .lst ∨ T = .str ∨ T = .dct
theorem mthF (m : Mth) : MthF (mthT m) (mthI m).1 (mthI m).2 := by
  cases m
  · exact ⟨PySem.F.plainAttrs_list, PySem.F.slot_list_append, PySem.F.type_list_append, .inl rfl⟩
  · exact ⟨PySem.F.plainAttrs_list, PySem.F.slot_list_pop, PySem.F.type_list_pop, .inl rfl⟩
  · exact ⟨PySem.F.plainAttrs_list, PySem.F.slot_list_clear, PySem.F.type_list_clear, .inl rfl⟩
  · exact ⟨PySem.F.plainAttrs_list, PySem.F.slot_list_remove, PySem.F.type_list_remove, .inl rfl⟩
  · exact ⟨PySem.F.plainAttrs_list, PySem.F.slot_list_insert, PySem.F.type_list_insert, .inl rfl⟩
  · exact ⟨PySem.F.plainAttrs_list, PySem.F.slot_list_extend, PySem.F.type_list_extend, .inl rfl⟩
  · exact ⟨PySem.F.plainAttrs_dict, PySem.F.slot_dict_get, PySem.F.type_dict_get, .inr (.inr rfl)⟩
  · exact ⟨PySem.F.plainAttrs_dict, PySem.F.slot_dict_clear, PySem.F.type_dict_clear, .inr (.inr rfl)⟩
  · exact ⟨PySem.F.plainAttrs_dict, PySem.F.slot_dict_update, PySem.F.type_dict_update, .inr (.inr rfl)⟩
/-! ### dicts' methods by values -/
theorem mtd_get2 {X : Cx} (hu : X.A.units + 1 < cLine) : MtR X "dict.get" (fun x vs H Q => ∃ (a : Addr) (y z : V) (o : Option V), x = .ref a ∧ vs = [y, z] ∧ DGet H a y o ∧ Q (o.getD z) H) := by
  intro pins s σ H x vs v us Q I rx rv h
  obtain ⟨a, y, z, o, rfl, rfl, g, q⟩ := h
  cases rx
  obtain ⟨u1, u2, rfl, r1, r2⟩ := rv.two
  exact d_get2 hu I g r1 r2 fun w s' J rw' => ⟨_, H, J, rw', q⟩
theorem mtd_upd {X : Cx} : MtR X "dict.update" (fun x vs H Q => ∃ (a b : Addr) (kvs more : List (Key × V)), x = .ref a ∧ vs = [.ref b] ∧ a ≠ b ∧ H a = some (.dK kvs) ∧ H b = some (.dK more) ∧ kvs.length + more.length ≤ sizeLine ∧
    Q .non (upd H a (.dK (mergeK kvs more)))) := by
  intro pins s σ H x vs v us Q I rx rv h
  obtain ⟨a, b, kvs, more, rfl, rfl, hne, ha, hb, hz, q⟩ := h
  cases rx
  obtain ⟨u, rfl, ru⟩ := rv.one
  cases ru
  obtain ⟨_, la, vs1, r1, d1⟩ := dk_of I.hok ha
  obtain ⟨_, lb, vs2, r2, d2⟩ := dk_of I.hok hb
  refine call_meetsIn PySem.F.slot_dict_update d1.typeIs PySem.F.entry_dict_update (PySem.F.args_dict_update_2 _ _) (meets_dict_update (mixKind X.prog X.w) a b hne lb)
    ⟨vs1, vs2, d1, d2, by rw [← KV.length r1, ← KV.length r2]; exact hz, fun h' d1' _ hs => ?_⟩
  have hl := length_mergeK more kvs
  have he : ∃ o, h'.get? a = some o := let ⟨o, _, _, ho, _⟩ := d1'; ⟨o, ho⟩
  exact ⟨.non, _, d_write I (by rw [ha]; exact True.intro) hs he (dk_new (by omega) la (r2.merge r1) d1'), rfl, q⟩
theorem repK_merge {K : PySem.W.Frag} {H : Hp} {m : List Addr} : ∀ {md : List (Key × D)} {mv : List (Key × V)} {kds : List (Key × D)} {kvs : List (Key × V)}, repK K H m md mv → repK K H m kds kvs → repK K H m (mergeD kds md) (mergeK kvs mv)
  | [], _, _, _, h, g => by
    subst h
    exact g
  | (k, d) :: md, _, kds, kvs, h, g => by
    obtain ⟨v, r, rfl, h1, h2⟩ := h
    have q := repK_merge h2 (repK_put (k := k) g h1)
    exact q
theorem mthA (X : Cx) (hu : X.A.units + 64 < cLine) (m : Mth) : MthA X m (mthI m).2 := by
  cases m with
  | append =>
    refine ⟨rAppend, mt_append, fun x v ds vs H H0 mm μ Q P E rm rx r h hP => ?_⟩
    unfold mthD at h
    split at h
    any_goals (rename_i z; cases z; done)
    all_goals first | exact h.elim | skip
    rename_i c d _
    simp only [reps] at r
    obtain ⟨w, _, rfl, r1, rfl⟩ := r
    simp only [rep] at rx
    obtain ⟨a, h1, rfl⟩ := rx
    split at h
    · rename_i xs h2
      obtain ⟨h0, us, h3, h4⟩ := rm.ref h1 h2
      split at h
      · rename_i hz
        refine ⟨a, us, w, rfl, rfl, h3, by rw [← reps_len h4]; exact hz, ?_⟩
        refine hP _ _ h .non _ H0 mm (rm.setC h1 h0 ⟨h0, us ++ [w], upd_same, reps_append h4 ?_⟩) (Step.setC h1) (rep_non.mpr rfl)
        simp only [reps]
        exact ⟨w, [], rfl, r1, rfl⟩
      · exact h.elim
    · exact h.elim
  | pop =>
    refine ⟨rPop, mt_pop, fun x v ds vs H H0 mm μ Q P E rm rx r h hP => ?_⟩
    unfold mthD at h
    split at h
    any_goals (rename_i z; cases z; done)
    all_goals first | exact h.elim | skip
    rename_i c _
    simp only [reps] at r
    subst r
    simp only [rep] at rx
    obtain ⟨a, h1, rfl⟩ := rx
    split at h
    · rename_i xs h2
      obtain ⟨h0, us, h3, h4⟩ := rm.ref h1 h2
      split at h
      · rename_i d hd
        obtain ⟨y, y1, y2⟩ := reps_get h4 hd
        refine ⟨a, us, y, rfl, rfl, h3, by rw [← reps_len h4]; exact y1, ?_⟩
        refine hP _ _ h y _ H0 mm (rm.setC h1 h0 ⟨h0, us.dropLast, upd_same, ?_⟩) (Step.setC h1) y2
        rw [List.dropLast_eq_take, List.dropLast_eq_take, reps_len h4]
        exact reps_take _ h4
      · exact h.elim
    · exact h.elim
  | clear =>
    refine ⟨rClear, mt_clear, fun x v ds vs H H0 mm μ Q P E rm rx r h hP => ?_⟩
    unfold mthD at h
    split at h
    any_goals (rename_i z; cases z; done)
    all_goals first | exact h.elim | skip
    rename_i c _
    simp only [reps] at r
    subst r
    simp only [rep] at rx
    obtain ⟨a, h1, rfl⟩ := rx
    split at h
    · rename_i xs h2
      obtain ⟨h0, us, h3, h4⟩ := rm.ref h1 h2
      refine ⟨a, us, rfl, rfl, h3, ?_⟩
      refine hP _ _ h .non _ H0 mm (rm.setC h1 h0 ⟨h0, [], upd_same, ?_⟩) (Step.setC h1) (rep_non.mpr rfl)
      simp only [reps]
    · exact h.elim
  | remove =>
    refine ⟨_, MtR.or mt_remove (mt_removeD hu), fun x v ds vs H H0 mm μ Q P E rm rx r h hP => ?_⟩
    unfold mthD at h
    split at h
    any_goals (rename_i z; cases z; done)
    all_goals first | exact h.elim | skip
    rename_i c i _
    simp only [reps] at r
    obtain ⟨w, _, rfl, r1, rfl⟩ := r
    obtain rfl := rep_int.mp r1
    simp only [rep] at rx
    obtain ⟨a, h1, rfl⟩ := rx
    split at h
    · rename_i xs h2
      obtain ⟨h0, us, h3, h4⟩ := rm.ref h1 h2
      split at h
      · rename_i ns e
        rw [reps_ints h4 e] at h3
        split at h
        · rename_i hi
          obtain ⟨j, j1, j2, j3, j4⟩ := first_at hi
          refine .inl ⟨a, ns, i, j, rfl, rfl, h3, j2, j3, ?_⟩
          rw [j4]
          exact hP _ _ h .non _ H0 mm (rm.setC h1 h0 ⟨h0, (ns.erase i).map V.int, upd_same, reps_of_ints _⟩) (Step.setC h1) (rep_non.mpr rfl)
        · exact h.elim
      · exact h.elim
    · exact h.elim
    rename_i c i j _
    simp only [reps] at r
    obtain ⟨w, _, rfl, r1, rfl⟩ := r
    simp only [rep] at rx
    obtain ⟨a, h1, rfl⟩ := rx
    split at h
    · rename_i xs h2
      obtain ⟨h0, us, h3, h4⟩ := rm.ref h1 h2
      split at h
      · rename_i ps e
        split at h
        · rename_i n hn
          refine .inr ⟨a, us, w, ps.map (fun p => PyData.tuple [.int p.1, .int p.2]), .tuple [.int i, .int j], n, rfl, rfl, h3, prs_dps rm.same h4 e, dp_of rfl (repT.mono rm.same r1), plain_prs ps, rfl, show (PyData.tuple [.int 0, .int 0]).depth ≤ 62 from by decide, ?_, ?_⟩
          · rw [place_prs]
            exact hn
          · refine hP _ _ h .non _ H0 mm (rm.setC h1 h0 ⟨h0, us.eraseIdx n, upd_same, ?_⟩) (Step.setC h1) (rep_non.mpr rfl)
            rw [List.eraseIdx_eq_take_drop_succ, List.eraseIdx_eq_take_drop_succ]
            exact reps_append (reps_take _ h4) (reps_drop _ h4)
        · exact h.elim
      · exact h.elim
    · exact h.elim
  | insert =>
    refine ⟨_, mt_insert, fun x v ds vs H H0 mm μ Q P E rm rx r h hP => ?_⟩
    unfold mthD at h
    split at h
    any_goals (rename_i z; cases z; done)
    all_goals first | exact h.elim | skip
    rename_i c i d _
    simp only [reps] at r
    obtain ⟨w, _, rfl, r1, w2, _, rfl, r2, rfl⟩ := r
    obtain rfl := rep_int.mp r1
    simp only [rep] at rx
    obtain ⟨a, h1, rfl⟩ := rx
    split at h
    · rename_i xs h2
      obtain ⟨h0, us, h3, h4⟩ := rm.ref h1 h2
      split at h
      · rename_i hz
        refine ⟨a, us, i, w2, rfl, rfl, h3, by rw [← reps_len h4]; exact hz.1, hz.2.1, by have := hz.2.2; omega, ?_⟩
        refine hP _ _ h .non _ H0 mm (rm.setC h1 h0 ⟨h0, us.take i.toNat ++ [w2] ++ us.drop i.toNat, upd_same, reps_append (reps_append (reps_take _ h4) ?_) (reps_drop _ h4)⟩) (Step.setC h1) (rep_non.mpr rfl)
        simp only [reps]
        exact ⟨w2, [], rfl, r2, rfl⟩
      · exact h.elim
    · exact h.elim
  | extend =>
    refine ⟨rExtend, mt_extend, fun x v ds vs H H0 mm μ Q P E rm rx r h hP => ?_⟩
    unfold mthD at h
    split at h
    any_goals (rename_i z; cases z; done)
    all_goals first | exact h.elim | skip
    rename_i c d _
    simp only [reps] at r
    obtain ⟨w, _, rfl, r1, rfl⟩ := r
    simp only [rep] at rx
    obtain ⟨a, h1, rfl⟩ := rx
    split at h
    · rename_i xs es h2 e
      obtain ⟨h0, us, h3, h4⟩ := rm.ref h1 h2
      obtain ⟨b, ws, rfl, h5, h6⟩ := rm.lstN r1 e
      split at h
      · rename_i hz
        refine ⟨a, b, us, ws, rfl, rfl, h3, h5, by rw [← reps_len h4, ← reps_len h6]; exact hz, ?_⟩
        exact hP _ _ h .non _ H0 mm (rm.setC h1 h0 ⟨h0, us ++ ws, upd_same, reps_append h4 h6⟩) (Step.setC h1) (rep_non.mpr rfl)
      · exact h.elim
    · exact h.elim
  | dget =>
    refine ⟨_, mtd_get2 (by omega), fun x v ds vs H H0 mm μ Q P E rm rx r h hP => ?_⟩
    unfold mthD at h
    split at h
    any_goals (rename_i z; cases z; done)
    all_goals first | exact h.elim | skip
    rename_i o y z _
    simp only [reps] at r
    obtain ⟨w, _, rfl, r1, w2, _, rfl, r2, rfl⟩ := r
    have fin : ∀ {go : Option D} {ov : Option V}, (match go with | some d => ∃ z, ov = some z ∧ rep X.K H0 mm d z | none => ov = none) → rep X.K H0 mm (go.getD z) (ov.getD w2) := fun {go ov} g => by
      cases go with
      | none => subst g; exact r2
      | some d => obtain ⟨z, rfl, g⟩ := g; exact g
    split at h
    · rename_i kds e1
      split at h
      · rename_i kk e2
        obtain ⟨a, ov, rfl, g, gr⟩ := rm.dget rx r1 e1 e2
        exact ⟨a, w, w2, ov, rfl, rfl, g, (hP _ _ h).scal rm (fin gr)⟩
      · exact h.elim
    · split at h
      · rename_i kds e1
        split at h
        · rename_i kk e2
          obtain ⟨a, ov, rfl, g, gr⟩ := rm.dgetT rx r1 e1 e2
          exact ⟨a, w, w2, ov, rfl, rfl, g, (hP _ _ h).scal rm (fin gr)⟩
        · exact h.elim
      · exact h.elim
  | dclear =>
    refine ⟨rDClear, mtd_clear, fun x v ds vs H H0 mm μ Q P E rm rx r h hP => ?_⟩
    unfold mthD at h
    split at h
    any_goals (rename_i z; cases z; done)
    all_goals first | exact h.elim | skip
    rename_i c _
    simp only [reps] at r
    subst r
    simp only [rep] at rx
    obtain ⟨a, h1, rfl⟩ := rx
    split at h
    · rename_i xs h2
      obtain ⟨h0, us, h3, h4⟩ := rm.ref h1 h2
      refine ⟨a, us, rfl, rfl, h3, ?_⟩
      exact hP _ _ h .non _ H0 mm (rm.setC h1 h0 ⟨h0, [], upd_same, rfl⟩) (Step.setC h1) (rep_non.mpr rfl)
    · exact h.elim
  | dupd =>
    refine ⟨_, mtd_upd, fun x v ds vs H H0 mm μ Q P E rm rx r h hP => ?_⟩
    unfold mthD at h
    split at h
    any_goals (rename_i z; cases z; done)
    all_goals first | exact h.elim | skip
    rename_i c d _
    simp only [reps] at r
    obtain ⟨w, _, rfl, r1, rfl⟩ := r
    simp only [rep] at rx
    obtain ⟨a, h1, rfl⟩ := rx
    split at h
    · rename_i kds more h2
      obtain ⟨h0, us, h3, h4⟩ := rm.ref h1 h2
      obtain ⟨b, mv, rfl, h5, h6⟩ := rm.dct (μ := μ) r1 rfl
      have h5' : H0 b = some (.dK mv) ∨ True := .inr trivial
      have hab : a ≠ b := fun e => by
        subst e
        simp only [rep, repT] at r1
        obtain ⟨_, _, e, h7, _⟩ := r1
        cases e
        rw [h0] at h7
        cases h7
      split at h
      · rename_i hz
        refine ⟨a, b, us, mv, rfl, rfl, hab, h3, h5, by rw [← repK_len h4, ← repK_len h6]; simpa using hz, ?_⟩
        exact hP _ _ h .non _ H0 mm (rm.setC h1 h0 ⟨h0, mergeK us mv, upd_same, repK_merge h6 h4⟩) (Step.setC h1) (rep_non.mpr rfl)
      · exact h.elim
    · exact h.elim
theorem mth_post {X : Cx} {W : WX} {m : Mth} {t : TA} {to : TE} {eo : E} {es : Es} {r : V → List V → Hp → VK → Prop} (ao : Ans X W to (evE Γ.F eo)) (aa : AnsG reps X W t (evEs Γ.F es))
    (hr2 : ∀ (x : D) (v : V) (ds : List D) (vs : List V) (H H0 : Hp) (mm : List Addr) (μ : Mem) (Q : VK) (P : D → Mem → Prop) (E : Exn → Mem → Prop),
      RelM X.K H H0 mm μ → rep X.K H0 mm x v → reps X.K H0 mm ds vs → Sat (mthD m x ds μ) P E → (∀ d μ, P d μ → PostE X.K Q H H0 mm d μ) → r v vs H Q) : Ans X W (tBM X.K (tyN (mthT m)) r to t) (evE Γ.F (.mth m eo es)) := fun σ H env μ H0 mm Q rm en h => by
  simp only [evE] at h
  refine ao.bnd rm en h fun d μ1 v H1 H01 m1 rm1 s1 r1 en1 h1 => ?_
  obtain ⟨e1, h2⟩ := tyChk_ok (Sat.bnd h1)
  refine ⟨tyV_ok rm1 r1 e1 (mthF m).ht, ?_⟩
  refine aa.bnd rm1 en1 h2 fun ds μ2 vs H2 H02 m2 rm2 s2 r2 en2 h3 => ?_
  exact hr2 d v ds vs H2 H02 m2 μ2 Q _ _ rm2 (r1.step s2) r2 h3 fun x μ3 q => PostE.later (Q := Q) q (s1.trans s2)
theorem ve_mth {m : Mth} {o a : Expr} {eo : E} {es : Es} {xs : List Expr} {nm : Str} {apos : Pos} (hn : nm = (mthI m).1) (hr : rcvX o = true) (hl : (apos.endLine == pos.line) = true) (ho : VE Γ k N sc o eo) (ha : VEs Γ k N sc (a :: xs) es) (hz : (a :: xs).length < 30) :
    VE Γ k N sc (.Call (.Attribute o nm apos) (a :: xs) [] pos) (.mth m eo es) := ⟨fun X W g => by
  obtain ⟨to, po, ao⟩ := ho.run X W g
  obtain ⟨ta, paa, aa⟩ := ha.run X W g
  obtain ⟨r, hr1, hr2⟩ := mthA X (by have := g.hu; omega) m
  have hp := ha.pl
  have hp' := hp
  simp only [List.all_cons, Bool.and_eq_true] at hp'
  subst hn
  have F := mthF m
  exact ⟨_, pe_bm F.pa F.slot F.hty hr1 po paa (attr_pl hr) (few_pl hp hz) hl (starEach_pl hp'.1) (starEach_any hp'.2), mth_post ao aa hr2⟩⟩
theorem ve_mth0 {m : Mth} {o : Expr} {eo : E} {nm : Str} {apos : Pos} (hn : nm = (mthI m).1) (hr : rcvX o = true) (hl : (apos.endLine == pos.line) = true) (ho : VE Γ k N sc o eo) :
    VE Γ k N sc (.Call (.Attribute o nm apos) [] [] pos) (.mth m eo .nil) := ⟨fun X W g => by
  obtain ⟨to, po, ao⟩ := ho.run X W g
  obtain ⟨r, hr1, hr2⟩ := mthA X (by have := g.hu; omega) m
  subst hn
  have F := mthF m
  refine ⟨_, pe_bm0 F.pa F.slot F.hty hr1 po (attr_pl hr) hl, ?_⟩
  exact fun σ H env μ H0 mm Q rm en h => mth_post ao nil_ans hr2 σ H env μ H0 mm Q rm en h⟩
end
end MI
/-! MI5: targets, what is walked, comprehensions. -/
namespace MI
open PySem PySem.Spec PyProof.Rows L2
variable {Γ : Gam} {k : Nat} {N : List Str} {sc : Sco} {pos : Pos}

/-! ### targets -/
mutual
def tgIn (vs : List Nat) : Tg → Bool
  | .nm i => vs.contains i
  | .tp ts => tgsIn vs ts
def tgsIn (vs : List Nat) : List Tg → Bool
  | [] => true
  | t :: ts => tgIn vs t && tgsIn vs ts
end
def tgX : Expr → Bool
  | .Name .. => true | .Tuple .. => true
  | _ => false
theorem wipe_set_in {σ : L2.St} {i : Nat} {x : Option V} : ∀ {vs : List Nat}, i ∈ vs → wipe (σ.set i x) vs = wipe σ vs
  | v :: vs, h => by
    by_cases e : v = i
    · subst e
      unfold wipe
      by_cases hv : v ∈ vs
      · rw [wipe_set_in hv]
      · have : ∀ (τ : L2.St), wipe (τ.set v x) vs = (wipe τ vs).set v x := fun τ => by
          clear h
          induction vs with
          | nil => rfl
          | cons w vs ih =>
            simp only [List.mem_cons, not_or] at hv
            unfold wipe
            rw [ih hv.2, List.set_comm _ _ hv.1]
        rw [this, List.set_set]
    · have hi : i ∈ vs := by
        rcases List.mem_cons.mp h with z | z
        · exact absurd z.symm e
        · exact z
      unfold wipe
      rw [wipe_set_in hi]
theorem wipe_wipe {σ : L2.St} : ∀ {us vs : List Nat}, (∀ i ∈ us, i ∈ vs) → wipe (wipe σ us) vs = wipe σ vs
  | [], _, _ => rfl
  | u :: us, vs, h => by
    show wipe ((wipe σ us).set u none) vs = _
    rw [wipe_set_in (h u (by simp)), wipe_wipe fun i hi => h i (by simp [hi])]
def AnsT (X : Cx) (t : TG) (f : D → Envv → Option Envv) (tg : List Nat → Bool) : Prop := ∀ σ H env env' H0 m d v (Q : L2.St → Hp → Prop) , Same H0 H → EnvOk X.K H0 m env σ → rep X.K H0 m d v → f d env = some env' →
  (∀ σ', EnvOk X.K H0 m env' σ' → (∀ vs, tg vs = true → wipe σ' vs = wipe σ vs) → Q σ' H) → t v σ H Q
def AnsTs (X : Cx) (t : TGs) (f : List D → Envv → Option Envv) (tg : List Nat → Bool) : Prop := ∀ σ H env env' H0 m d v (Q : L2.St → Hp → Prop) , Same H0 H → EnvOk X.K H0 m env σ → reps X.K H0 m d v → f d env = some env' →
  (∀ σ', EnvOk X.K H0 m env' σ' → (∀ vs, tg vs = true → wipe σ' vs = wipe σ vs) → Q σ' H) → t v σ H Q
structure VG (Γ : Gam) (k : Nat) (N : List Str) (sc : Sco) (x : Expr) (tg : Tg) : Prop where
  tx : tgX x = true
  run : ∀ X W, Gd Γ k N sc X W → ∃ t, PG X x t ∧ AnsT X t (asgT tg) (fun vs => tgIn vs tg)
structure VGs (Γ : Gam) (k : Nat) (N : List Str) (sc : Sco) (xs : List Expr) (tgs : List Tg) : Prop where
  tx : xs.all tgX = true
  run : ∀ X W, Gd Γ k N sc X W → ∃ t, PGs X xs t ∧ AnsTs X t (asgTs tgs) (fun vs => tgsIn vs tgs)
theorem vg_nm {i : Nat} {x : Str} (h1 : N[i]? = some x) (h2 : locS sc x = true) : VG Γ k N sc (.Name x pos) (.nm i) := ⟨rfl, fun X W g => by
  obtain ⟨l1, l2⟩ := g.loc h2
  refine ⟨_, pg_name (i := i) (by rw [g.hN]; exact g.nd) (by rw [g.hN]; exact h1) l1 l2, fun σ H env env' H0 m d v Q s en r e q => ?_⟩
  simp only [asgT, Option.some.injEq] at e
  subst e
  refine q _ (en.set r) fun vs hv => ?_
  simp only [tgIn, List.contains_iff_mem] at hv
  exact wipe_set_in hv⟩
theorem vgs_nil : VGs Γ k N sc [] [] := ⟨rfl, fun X W g => ⟨_, pgs_nil, fun σ H env env' H0 m d v Q s en r e q => by
  cases d with
  | nil =>
    simp only [reps] at r
    simp only [asgTs, Option.some.injEq] at e
    subst e
    exact ⟨r, q σ en fun _ _ => rfl⟩
  | cons d ds => simp [asgTs] at e⟩⟩
theorem assignEach_tg {e : Expr} {es : List Expr} {env : Env} (h : tgX e = true) : assignEach (e :: es) env = (false, assign e env) :: assignEach es env := by
  cases e <;> first | rfl | (exact nomatch h)
theorem assignEach_all {env : Env} : ∀ {es : List Expr}, es.all tgX = true → (assignEach es env).length = es.length ∧ (assignEach es env).findIdx? (·.1) = none
  | [], _ => ⟨rfl, rfl⟩
  | e :: es, h => by
    simp only [List.all_cons, Bool.and_eq_true] at h
    obtain ⟨h1, h2⟩ := assignEach_all (env := env) h.2
    rw [assignEach_tg h.1]
    refine ⟨by simp [h1], ?_⟩
    rw [List.findIdx?_cons]
    simp [h2]
theorem vgs_cons {x : Expr} {xs : List Expr} {t : Tg} {ts : List Tg} (h : VG Γ k N sc x t) (hs : VGs Γ k N sc xs ts) : VGs Γ k N sc (x :: xs) (t :: ts) := ⟨by simp [h.tx, hs.tx], fun X W g => by
  obtain ⟨t1, p1, a1⟩ := h.run X W g
  obtain ⟨t2, p2, a2⟩ := hs.run X W g
  refine ⟨_, pgs_cons p1 p2 (by rw [assignEach_tg h.tx]; rfl), fun σ H env env' H0 m d v Q s en r e q => ?_⟩
  cases d with
  | nil => simp [asgTs] at e
  | cons d ds =>
    simp only [reps] at r
    obtain ⟨w, vr, rfl, r1, r2⟩ := r
    simp only [asgTs] at e
    split at e
    · rename_i env1 e1
      refine ⟨w, vr, rfl, a1 σ H env env1 H0 m d w _ s en r1 e1 fun σ1 en1 w1 => ?_⟩
      refine a2 σ1 H env1 env' H0 m ds vr Q s en1 r2 e fun σ2 en2 w2 => q σ2 en2 fun vs hv => ?_
      simp only [tgsIn, Bool.and_eq_true] at hv
      rw [w2 vs hv.2, w1 vs hv.1]
    · cases e⟩
theorem tupOf_ok {K : PySem.W.Frag} {H H0 : Hp} {m : List Addr} {d : D} {v : V} {ds : List D} (s : Same H0 H) (r : rep K H0 m d v) (h : tupOf d = some ds) : ∃ a vs, v = .ref a ∧ H a = some (.tup vs) ∧ reps K H0 m ds vs := by
  unfold tupOf at h
  split at h
  · cases h
    simp only [rep, repT] at r
    obtain ⟨a, vs, e, h1, h2⟩ := r
    exact ⟨a, vs, e, s _ _ h1, repT_ts.mp h2⟩
  · cases h
    simp only [rep] at r
    obtain ⟨a, vs, e, h1, h2⟩ := r
    exact ⟨a, vs, e, s _ _ h1, h2⟩
  · cases h
theorem asgTs_len : ∀ {ts : List Tg} {ds : List D} {env env' : Envv}, asgTs ts ds env = some env' → ts.length = ds.length
  | [], [], _, _, _ => rfl
  | [], _ :: _, _, _, h => by simp [asgTs] at h
  | _ :: _, [], _, _, h => by simp [asgTs] at h
  | t :: ts, d :: ds, env, env', h => by
    simp only [asgTs] at h
    split at h
    · simp [asgTs_len h]
    · cases h
theorem vg_tp {xs : List Expr} {ts : List Tg} {j : Nat} (hs : VGs Γ k N sc xs ts) (hl : xs.length = ts.length) : VG Γ k N sc (.Tuple xs j pos) (.tp ts) := ⟨rfl, fun X W g => by
  obtain ⟨t2, p2, a2⟩ := hs.run X W g
  obtain ⟨h1, h2⟩ := assignEach_all (env := X.env) hs.tx
  refine ⟨_, pg_tup g.calm p2 h1 h2, fun σ H env env' H0 m d v Q s en r e q => ?_⟩
  simp only [asgT] at e
  split at e
  · rename_i ds e1
    obtain ⟨a, vs, rfl, r1, r2⟩ := tupOf_ok s r e1
    refine ⟨a, vs, rfl, .of r1, by rw [← reps_len r2, ← asgTs_len e, hl], ?_⟩
    exact a2 σ H env env' H0 m ds vs Q s en r2 e fun σ' en' w => q σ' en' fun vs hv => w vs (by simpa only [tgIn] using hv)
  · cases e⟩

/-! ### what is walked -/
/-- of an iterator J: it goes as long as items stand; what it yields stands for the items -/
structure Goes (K : PySem.W.Frag) (J : L2.It) (ds : List D) (w : Watch) (H0 : Hp) (m : List Addr) (H : Hp) : Prop where
  go : ∀ i H2 H02 m2 μ2, i < ds.length → RelM K H2 H02 m2 μ2 → Step H H0 m H2 H02 m2 → WOk μ2 w → J.go i H2
  stop : ∀ H2 H02 m2 μ2, RelM K H2 H02 m2 μ2 → Step H H0 m H2 H02 m2 → WOk μ2 w → J.stop ds.length H2
  yld : ∀ i H2 H02 m2 μ2 x H3, i < ds.length → RelM K H2 H02 m2 μ2 → Step H H0 m H2 H02 m2 → WOk μ2 w → J.yld i H2 x H3 →
    ∃ H03 d, ds[i]? = some d ∧ RelM K H3 H03 m2 μ2 ∧ Step H2 H02 m2 H3 H03 m2 ∧ rep K H03 m2 d x
def AnsI (X : Cx) (W : WX) (wi : TI) (c : Envv → M (List D × Watch)) : Prop := ∀ σ H env μ H0 m (R : L2.It → Hp → Prop), RelM X.K H H0 m μ → EnvOk X.K H0 m env σ →
  Sat (c env μ) (fun p μ' => ∀ J H' H0' m', RelM X.K H' H0' m' μ' → Step H H0 m H' H0' m' → Goes X.K J p.1 p.2 H0' m' H' → R J H') (PostX X.mg X.K (fun a b => W a b σ) H H0 m) → wi σ H R
structure VI (Γ : Gam) (k : Nat) (N : List Str) (sc : Sco) (tg x : Expr) (it : It) : Prop where
  pl : plX x = true
  run : ∀ X W, Gd Γ k N sc X W → ∃ wi, PI X tg x wi ∧ AnsI X W wi (evI Γ.F it)
/-- a list, as it is met later -/
theorem live {K : PySem.W.Frag} {H H0 : Hp} {m : List Addr} {μ : Mem} {x : D} {v : V} {ds : List D} (rm : RelM K H H0 m μ) (r : rep K H0 m x v) (h : lstOf μ x = some ds) :
    ∃ a, v = .ref a ∧ ∀ {H2 H02 : Hp} {m2 : List Addr} {μ2 : Mem}, RelM K H2 H02 m2 μ2 → Step H H0 m H2 H02 m2 → WOk μ2 (watchL x ds) → ∃ vs, SqL K H2 a vs ∧ reps K H02 m2 ds vs := by
  unfold lstOf at h
  split at h
  · cases h
    simp only [rep, repT] at r
    obtain ⟨a, vs, rfl, h1, h2⟩ := r
    exact ⟨a, rfl, fun rm2 s2 _ => ⟨vs, .of (rm2.same _ _ (s2.same _ _ h1)), reps.step (repT_ts.mp h2) s2⟩⟩
  · cases h
    simp only [rep, repT] at r
    obtain ⟨a, rfl, h1⟩ := r
    exact ⟨a, rfl, fun rm2 s2 _ => ⟨_, rm2.same.seq (s2.same.seq h1), reps_of_ints _⟩⟩
  · rename_i c
    simp only [rep] at r
    obtain ⟨a, h1, rfl⟩ := r
    split at h
    · cases h
      refine ⟨a, rfl, fun {H2 H02 m2 μ2} rm2 s2 hw => ?_⟩
      have := hw (c, ds) (by simp [watchL])
      obtain ⟨_, vs, h3, h4⟩ := rm2.ref (s2.at _ _ h1) this
      exact ⟨vs, .of h3, h4⟩
    · cases h
  · cases h

theorem goes_list {K : PySem.W.Frag} {H H0 : Hp} {m : List Addr} {μ : Mem} {x : D} {v : V} {ds : List D} (rm : RelM K H H0 m μ) (r : rep K H0 m x v) (h : lstOf μ x = some ds) : ∃ a, v = .ref a ∧ Goes K (Itl K a) ds (watchL x ds) H0 m H := by
  obtain ⟨a, rfl, hl⟩ := live rm r h
  refine ⟨a, rfl, ⟨fun i H2 H02 m2 μ2 hi rm2 s2 hw => ?_, fun H2 H02 m2 μ2 rm2 s2 hw => ?_, fun i H2 H02 m2 μ2 y H3 hi rm2 s2 hw hy => ?_⟩⟩
  · obtain ⟨vs, h1, h2⟩ := hl rm2 s2 hw
    exact ⟨vs, vs[i]'(by rw [← reps_len h2]; exact hi), h1, by simp [← reps_len h2, hi]⟩
  · obtain ⟨vs, h1, h2⟩ := hl rm2 s2 hw
    exact ⟨vs, h1, by rw [reps_len h2]; exact Nat.le_refl _⟩
  · obtain ⟨vs, h1, h2⟩ := hl rm2 s2 hw
    obtain ⟨rfl, hy⟩ := hy
    obtain ⟨z, z1, z2⟩ := reps_get h2 (List.getElem?_eq_getElem hi)
    rw [hy vs h1] at z1
    cases z1
    exact ⟨H02, _, List.getElem?_eq_getElem hi, rm2, Step.refl, z2⟩
theorem goes_tup {K : PySem.W.Frag} {H H0 : Hp} {m : List Addr} {μ : Mem} {x : D} {v : V} {ds : List D} (rm : RelM K H H0 m μ) (r : rep K H0 m x v) (h : tupOf x = some ds) : ∃ a, v = .ref a ∧ Goes K (Itt K a) ds [] H0 m H := by
  have hl : ∃ a, v = .ref a ∧ ∃ vs, H0 a = some (.tup vs) ∧ reps K H0 m ds vs := by
    unfold tupOf at h
    split at h
    · cases h
      simp only [rep, repT] at r
      obtain ⟨a, vs, e, h1, h2⟩ := r
      exact ⟨a, e, vs, h1, repT_ts.mp h2⟩
    · cases h
      simp only [rep] at r
      obtain ⟨a, vs, e, h1, h2⟩ := r
      exact ⟨a, e, vs, h1, h2⟩
    · cases h
  obtain ⟨a, rfl, vs, h1, h2⟩ := hl
  refine ⟨a, rfl, ⟨fun i H2 H02 m2 μ2 hi rm2 s2 hw => ?_, fun H2 H02 m2 μ2 rm2 s2 hw => ?_, fun i H2 H02 m2 μ2 y H3 hi rm2 s2 hw hy => ?_⟩⟩
  · exact ⟨vs, vs[i]'(by rw [← reps_len h2]; exact hi), .of (rm2.same _ _ (s2.same _ _ h1)), by simp [← reps_len h2, hi]⟩
  · exact ⟨vs, .of (rm2.same _ _ (s2.same _ _ h1)), by rw [reps_len h2]; exact Nat.le_refl _⟩
  · obtain ⟨rfl, hy⟩ := hy
    obtain ⟨z, z1, z2⟩ := reps_get h2 (List.getElem?_eq_getElem hi)
    rw [hy vs (.of (rm2.same _ _ (s2.same _ _ h1)))] at z1
    cases z1
    exact ⟨H02, _, List.getElem?_eq_getElem hi, rm2, Step.refl, z2.step s2⟩
theorem rngD_len : ∀ (n : Nat) (lo : Int), (rngD lo n).length = n
  | 0, _ => rfl
  | n + 1, lo => by simp [rngD, rngD_len n]
theorem rngD_get : ∀ (n : Nat) (lo : Int) (i : Nat), i < n → (rngD lo n)[i]? = some (.t (.int (lo + i)))
  | 0, _, _, h => by omega
  | n + 1, lo, 0, _ => by simp [rngD]
  | n + 1, lo, i + 1, h => by
    simp only [rngD, List.getElem?_cons_succ]
    rw [rngD_get n (lo + 1) i (by omega)]
    congr 3
    omega
theorem goes_rng {K : PySem.W.Frag} {H H0 : Hp} {m : List Addr} {lo : Int} {n : Nat} : Goes K (Itr lo n) (rngD lo n) [] H0 m H := by
  refine ⟨fun i H2 H02 m2 μ2 hi rm2 s2 hw => ?_, fun H2 H02 m2 μ2 rm2 s2 hw => ?_, fun i H2 H02 m2 μ2 y H3 hi rm2 s2 hw hy => ?_⟩
  · rw [rngD_len] at hi; exact hi
  · rw [rngD_len]; exact Nat.le_refl _
  · rw [rngD_len] at hi
    obtain ⟨rfl, rfl⟩ := hy
    exact ⟨H02, _, rngD_get n lo i hi, rm2, Step.refl, rep_int.mpr rfl⟩
theorem enumD_len : ∀ (ds : List D) (k : Nat), (enumD k ds).length = ds.length
  | [], _ => rfl
  | .t x :: ds, k => by simp [enumD, enumD_len ds]
  | .ref c :: ds, k => by simp [enumD, enumD_len ds]
  | .tp c :: ds, k => by simp [enumD, enumD_len ds]
theorem enumD_get : ∀ (ds : List D) (k i : Nat) (d : D), ds[i]? = some d → (enumD k ds)[i]? = some (pairD (.t (.int (k + i : Nat))) d)
  | [], _, _, _, h => by simp at h
  | .t x :: ds, k, 0, d, h => by simp at h; subst h; simp [enumD, pairD]
  | .ref c :: ds, k, 0, d, h => by simp at h; subst h; simp [enumD, pairD]
  | .tp c :: ds, k, 0, d, h => by simp at h; subst h; simp [enumD, pairD]
  | .t x :: ds, k, i + 1, d, h => by
    simp only [enumD, List.getElem?_cons_succ] at h ⊢
    rw [enumD_get ds (k + 1) i d h, show k + 1 + i = k + (i + 1) by omega]
  | .ref c :: ds, k, i + 1, d, h => by
    simp only [enumD, List.getElem?_cons_succ] at h ⊢
    rw [enumD_get ds (k + 1) i d h, show k + 1 + i = k + (i + 1) by omega]
  | .tp c :: ds, k, i + 1, d, h => by
    simp only [enumD, List.getElem?_cons_succ] at h ⊢
    rw [enumD_get ds (k + 1) i d h, show k + 1 + i = k + (i + 1) by omega]
/-- a new pair is laid -/
theorem pair_laid {K : PySem.W.Frag} {H H0 : Hp} {m : List Addr} {μ : Mem} {x y : D} {v w : V} {p : Addr} (rm : RelM K H H0 m μ) (rx : rep K H0 m x v) (ry : rep K H0 m y w) (hp : H p = none) :
    ∃ H03, RelM K (upd H p (.tup [v, w])) H03 m μ ∧ Step H H0 m (upd H p (.tup [v, w])) H03 m ∧ rep K H03 m (pairD x y) (.ref p) := by
  have h0 := rm.same.free hp
  have sm := Same.upd (o := .tup [v, w]) h0
  refine ⟨upd H0 p (.tup [v, w]), rm.newF hp, Step.newF rm.same hp, ?_⟩
  have r2 : reps K (upd H0 p (.tup [v, w])) m [x, y] [v, w] := by
    simp only [reps]
    exact ⟨v, [w], rfl, rx.mono sm fun _ _ z => z, w, [], rfl, ry.mono sm fun _ _ z => z, rfl⟩
  unfold pairD
  split
  · rename_i a b
    simp only [rep, repT]
    exact ⟨p, _, rfl, upd_same, (repT_ts (m := m)).mpr r2⟩
  · simp only [rep]
    exact ⟨p, _, rfl, upd_same, r2⟩
theorem goes_enum {K : PySem.W.Frag} {H H0 : Hp} {m : List Addr} {μ : Mem} {x : D} {v : V} {ds : List D} (rm : RelM K H H0 m μ) (r : rep K H0 m x v) (h : lstOf μ x = some ds) : ∃ a, v = .ref a ∧ Goes K (Ite K a) (enumD 0 ds) (watchL x ds) H0 m H := by
  obtain ⟨a, rfl, hl⟩ := live rm r h
  refine ⟨a, rfl, ⟨fun i H2 H02 m2 μ2 hi rm2 s2 hw => ?_, fun H2 H02 m2 μ2 rm2 s2 hw => ?_, fun i H2 H02 m2 μ2 y H3 hi rm2 s2 hw hy => ?_⟩⟩
  · obtain ⟨vs, h1, h2⟩ := hl rm2 s2 hw
    rw [enumD_len] at hi
    exact ⟨vs, vs[i]'(by rw [← reps_len h2]; exact hi), h1, by simp [← reps_len h2, hi]⟩
  · obtain ⟨vs, h1, h2⟩ := hl rm2 s2 hw
    exact ⟨vs, h1, by rw [enumD_len, reps_len h2]; exact Nat.le_refl _⟩
  · obtain ⟨vs, h1, h2⟩ := hl rm2 s2 hw
    rw [enumD_len] at hi
    obtain ⟨T, z, rfl, nT, rfl, hy⟩ := hy
    obtain ⟨z', z1, z2⟩ := reps_get h2 (List.getElem?_eq_getElem hi)
    rw [hy vs h1] at z1
    cases z1
    obtain ⟨H03, q1, q2, q3⟩ := pair_laid (x := .t (.int (i : Nat))) (v := .int (i : Nat)) rm2 (rep_int.mpr rfl) z2 nT
    refine ⟨H03, _, ?_, q1, q2, q3⟩
    rw [enumD_get ds 0 i _ (List.getElem?_eq_getElem hi), Nat.zero_add]
theorem goes_zip {K : PySem.W.Frag} {H H0 : Hp} {m : List Addr} {μ : Mem} {x y : D} {v w : V} {ds es : List D} (rm : RelM K H H0 m μ) (rx : rep K H0 m x v) (ry : rep K H0 m y w) (h : lstOf μ x = some ds) (g : lstOf μ y = some es) :
    ∃ a b, v = .ref a ∧ w = .ref b ∧ Goes K (Itz K a b) (List.zipWith pairD ds es) (watchL x ds ++ watchL y es) H0 m H := by
  obtain ⟨a, rfl, hl⟩ := live rm rx h
  obtain ⟨b, rfl, hg⟩ := live rm ry g
  have w1 : ∀ {μ2 : Mem}, WOk μ2 (watchL x ds ++ watchL y es) → WOk μ2 (watchL x ds) ∧ WOk μ2 (watchL y es) := fun hw => ⟨fun p hp => hw p (List.mem_append_left _ hp), fun p hp => hw p (List.mem_append_right _ hp)⟩
  refine ⟨a, b, rfl, rfl, ⟨fun i H2 H02 m2 μ2 hi rm2 s2 hw => ?_, fun H2 H02 m2 μ2 rm2 s2 hw => ?_, fun i H2 H02 m2 μ2 y H3 hi rm2 s2 hw hy => ?_⟩⟩
  · obtain ⟨vs, h1, h2⟩ := hl rm2 s2 (w1 hw).1
    obtain ⟨ws, g1, g2⟩ := hg rm2 s2 (w1 hw).2
    rw [List.length_zipWith] at hi
    have e1 := reps_len h2
    have e2 := reps_len g2
    exact ⟨vs, ws, vs[i]'(by omega), ws[i]'(by omega), h1, g1, by simp [show i < vs.length by omega], by simp [show i < ws.length by omega]⟩
  · obtain ⟨vs, h1, h2⟩ := hl rm2 s2 (w1 hw).1
    obtain ⟨ws, g1, g2⟩ := hg rm2 s2 (w1 hw).2
    have e1 := reps_len h2
    have e2 := reps_len g2
    exact ⟨vs, ws, h1, g1, by rw [List.length_zipWith]; omega⟩
  · obtain ⟨vs, h1, h2⟩ := hl rm2 s2 (w1 hw).1
    obtain ⟨ws, g1, g2⟩ := hg rm2 s2 (w1 hw).2
    rw [List.length_zipWith] at hi
    have i1 : i < ds.length := by omega
    have i2 : i < es.length := by omega
    obtain ⟨T, z, u, rfl, nT, rfl, hy1, hy2⟩ := hy
    obtain ⟨z', z1, z2⟩ := reps_get h2 (List.getElem?_eq_getElem i1)
    obtain ⟨u', u1, u2⟩ := reps_get g2 (List.getElem?_eq_getElem i2)
    rw [hy1 vs h1] at z1
    rw [hy2 ws g1] at u1
    cases z1
    cases u1
    obtain ⟨H03, q1, q2, q3⟩ := pair_laid rm2 z2 u2 nT
    refine ⟨H03, _, ?_, q1, q2, q3⟩
    rw [List.getElem?_zipWith, List.getElem?_eq_getElem i1, List.getElem?_eq_getElem i2]
theorem tlive {K : PySem.W.Frag} {H H0 : Hp} {m : List Addr} {μ : Mem} {x : D} {v : V} {ds : List D} (rm : RelM K H H0 m μ) (r : rep K H0 m x v) (h : tupOf x = some ds) :
    ∃ a, v = .ref a ∧ ∀ {H2 H02 : Hp} {m2 : List Addr} {μ2 : Mem}, RelM K H2 H02 m2 μ2 → Step H H0 m H2 H02 m2 → ∃ vs, SqT K H2 a vs ∧ reps K H02 m2 ds vs := by
  have hl : ∃ a, v = .ref a ∧ ∃ vs, H0 a = some (.tup vs) ∧ reps K H0 m ds vs := by
    unfold tupOf at h
    split at h
    · cases h
      simp only [rep, repT] at r
      obtain ⟨a, vs, e, h1, h2⟩ := r
      exact ⟨a, e, vs, h1, repT_ts.mp h2⟩
    · cases h
      simp only [rep] at r
      obtain ⟨a, vs, e, h1, h2⟩ := r
      exact ⟨a, e, vs, h1, h2⟩
    · cases h
  obtain ⟨a, rfl, vs, h1, h2⟩ := hl
  exact ⟨a, rfl, fun rm2 s2 => ⟨vs, .of (rm2.same _ _ (s2.same _ _ h1)), h2.step s2⟩⟩
theorem goes_zipT {K : PySem.W.Frag} {H H0 : Hp} {m : List Addr} {μ : Mem} {x y : D} {v w : V} {ds es : List D} (rm : RelM K H H0 m μ) (rx : rep K H0 m x v) (ry : rep K H0 m y w) (h : tupOf x = some ds) (g : tupOf y = some es) :
    ∃ a b, v = .ref a ∧ w = .ref b ∧ Goes K (RZ.ItzT K a b) (List.zipWith pairD ds es) [] H0 m H := by
  obtain ⟨a, rfl, hl⟩ := tlive rm rx h
  obtain ⟨b, rfl, hg⟩ := tlive rm ry g
  refine ⟨a, b, rfl, rfl, ⟨fun i H2 H02 m2 μ2 hi rm2 s2 hw => ?_, fun H2 H02 m2 μ2 rm2 s2 hw => ?_, fun i H2 H02 m2 μ2 y H3 hi rm2 s2 hw hy => ?_⟩⟩
  · obtain ⟨vs, h1, h2⟩ := hl rm2 s2
    obtain ⟨ws, g1, g2⟩ := hg rm2 s2
    rw [List.length_zipWith] at hi
    have e1 := reps_len h2
    have e2 := reps_len g2
    exact ⟨vs, ws, vs[i]'(by omega), ws[i]'(by omega), h1, g1, by simp [show i < vs.length by omega], by simp [show i < ws.length by omega]⟩
  · obtain ⟨vs, h1, h2⟩ := hl rm2 s2
    obtain ⟨ws, g1, g2⟩ := hg rm2 s2
    have e1 := reps_len h2
    have e2 := reps_len g2
    exact ⟨vs, ws, h1, g1, by rw [List.length_zipWith]; omega⟩
  · obtain ⟨vs, h1, h2⟩ := hl rm2 s2
    obtain ⟨ws, g1, g2⟩ := hg rm2 s2
    rw [List.length_zipWith] at hi
    have i1 : i < ds.length := by omega
    have i2 : i < es.length := by omega
    obtain ⟨T, z, u, rfl, nT, rfl, hy1, hy2⟩ := hy
    obtain ⟨z', z1, z2⟩ := reps_get h2 (List.getElem?_eq_getElem i1)
    obtain ⟨u', u1, u2⟩ := reps_get g2 (List.getElem?_eq_getElem i2)
    rw [hy1 vs h1] at z1
    rw [hy2 ws g1] at u1
    cases z1
    cases u1
    obtain ⟨H03, q1, q2, q3⟩ := pair_laid rm2 z2 u2 nT
    refine ⟨H03, _, ?_, q1, q2, q3⟩
    rw [List.getElem?_zipWith, List.getElem?_eq_getElem i1, List.getElem?_eq_getElem i2]
theorem goes_rev {K : PySem.W.Frag} {H H0 : Hp} {m : List Addr} {μ : Mem} {x : D} {v : V} {ds : List D} (rm : RelM K H H0 m μ) (r : rep K H0 m x v) (h : lstOf μ x = some ds) : ∃ a, v = .ref a ∧ Goes K (Itv K a ds.length) ds.reverse (watchL x ds) H0 m H := by
  obtain ⟨a, rfl, hl⟩ := live rm r h
  refine ⟨a, rfl, ⟨fun i H2 H02 m2 μ2 hi rm2 s2 hw => ?_, fun H2 H02 m2 μ2 rm2 s2 hw => ?_, fun i H2 H02 m2 μ2 y H3 hi rm2 s2 hw hy => ?_⟩⟩
  · obtain ⟨vs, h1, h2⟩ := hl rm2 s2 hw
    rw [List.length_reverse] at hi
    have e := reps_len h2
    exact ⟨hi, vs, vs[ds.length - 1 - i]'(by omega), h1, by simp [show ds.length - 1 - i < vs.length by omega]⟩
  · rw [List.length_reverse]; exact Nat.le_refl _
  · obtain ⟨vs, h1, h2⟩ := hl rm2 s2 hw
    rw [List.length_reverse] at hi
    obtain ⟨rfl, hy⟩ := hy
    have i1 : ds.length - 1 - i < ds.length := by omega
    obtain ⟨z, z1, z2⟩ := reps_get h2 (List.getElem?_eq_getElem i1)
    rw [hy vs h1] at z1
    cases z1
    refine ⟨H02, _, ?_, rm2, Step.refl, z2⟩
    rw [List.getElem?_reverse hi, List.getElem?_eq_getElem i1]

/-! ### iterables -/
theorem pi_seq {X : Cx} {tg l : Expr} {tl : TE} (hl : PE X l tl) : PI X tg l (fun σ H R => tl σ H fun x H1 => (∃ a, x = .ref a ∧ (∃ xs, SqL X.K H1 a xs) ∧ R (Itl X.K a) H1) ∨ ∃ a, x = .ref a ∧ (∃ xs, SqT X.K H1 a xs) ∧ R (Itt X.K a) H1) := by
  refine ⟨fun pins s σ H R I h => ?_⟩
  refine thn (hl.run pins s σ H _ I h) fun v s1 ⟨x, H1, I1, r1, q1⟩ => ?_
  rcases q1 with q1 | q1
  · obtain ⟨a, e, ⟨xs, hq⟩, q⟩ := q1
    subst e
    cases r1
    obtain ⟨its, rv, p, hz⟩ := I1.list hq
    refine wpAny_pyIter_list p.isList ?_
    refine ⟨s1.heap.objs.size, [s1.heap.objs.size], _, _, H1, rfl, I1.kept (t' := s1.toks) fun b o e => Heap.get?_push_of_some _ e, turn_list a _, ⟨_, Heap.get?_push_size _ rfl, rfl, rfl⟩, fun b hb => ?_, q⟩
    have e : b = s1.heap.objs.size := by simpa using hb
    subst e
    exact I1.fpOk (Nat.le_refl _) (I1.hok.fresh (Nat.le_refl _))
  · obtain ⟨a, e, ⟨xs, hq⟩, q⟩ := q1
    subst e
    cases r1
    obtain ⟨its, rv, p, hz⟩ := I1.tuple hq
    refine wpAny_pyIter_tuple (show s1.heap.IsTuple a its.toArray from p) ?_
    refine ⟨s1.heap.objs.size, [s1.heap.objs.size], _, _, H1, rfl, I1.kept (t' := s1.toks) fun b o e => Heap.get?_push_of_some _ e, turn_tuple a _, ⟨_, Heap.get?_push_size _ rfl, rfl, rfl⟩, fun b hb => ?_, q⟩
    have e : b = s1.heap.objs.size := by simpa using hb
    subst e
    exact I1.fpOk (Nat.le_refl _) (I1.hok.fresh (Nat.le_refl _))
theorem vi_val {tg x : Expr} {e : E} (hp : plX x = true) (h : VE Γ k N sc x e) : VI Γ k N sc tg x (.val e) := ⟨hp, fun X W g => by
  obtain ⟨ta, pa, aa⟩ := h.run X W g
  refine ⟨_, pi_seq pa, fun σ H env μ H0 m R rm en h => ?_⟩
  simp only [evI] at h
  refine aa.bnd rm en h fun d μ1 v H1 H01 m1 rm1 s1 r1 en1 h1 => ?_
  split at h1
  · rename_i ds e1
    obtain ⟨a, rfl, G⟩ := goes_list rm1 r1 e1
    obtain ⟨_, vs, e2, q, _⟩ := rm1.lst r1 e1
    cases e2
    exact .inl ⟨a, rfl, ⟨vs, q⟩, h1 _ _ _ _ rm1 s1 G⟩
  · split at h1
    · rename_i ds e1
      obtain ⟨a, rfl, G⟩ := goes_tup rm1 r1 e1
      obtain ⟨_, vs, e2, q, _⟩ := rm1.tup r1 e1
      cases e2
      exact .inr ⟨a, rfl, ⟨vs, .of q⟩, h1 _ _ _ _ rm1 s1 G⟩
    · exact h1.elim⟩
theorem vi_rng1 {tg a : Expr} {ea : E} {p : Pos} (hp : plX a = true) (hb : ("range" : Str) ∈ Γ.blts) (hg : giB (sc.names.lookup ("range" : Str)) = true) (h : VE Γ k N sc a ea) : VI Γ k N sc tg (.Call (.Name "range" p) [a] [] pos) (.rng1 ea) := ⟨rfl, fun X W g => by
  obtain ⟨ta, pa, aa⟩ := h.run X W g
  have hst : starEach [a] X.env = (false, eval a X.env) :: starEach [] X.env := starEach_pl hp
  refine ⟨_, pi_range1 (g.gl hg) (g.blt _ hb) (pa_cons pa pa_nil hst) hst, fun σ H env μ H0 m R rm en h => ?_⟩
  simp only [evI] at h
  refine aa.bnd rm en h fun d μ1 v H1 H01 m1 rm1 s1 r1 en1 h1 => ?_
  split at h1
  · rename_i j e
    unfold rngM0 at h1
    split at h1
    · rename_i hj
      exact ⟨j, by rw [toI_int e r1], hj.1, hj.2, h1 _ _ _ _ rm1 s1 goes_rng⟩
    · exact h1.elim
  · exact h1.elim⟩
theorem vi_rng2 {tg a b : Expr} {ea eb : E} {p : Pos} (hp : plX a = true) (hp2 : plX b = true) (hb : ("range" : Str) ∈ Γ.blts) (hg : giB (sc.names.lookup ("range" : Str)) = true) (ha : VE Γ k N sc a ea) (hb' : VE Γ k N sc b eb) : VI Γ k N sc tg (.Call (.Name "range" p) [a, b] [] pos) (.rng2 ea eb) := ⟨rfl, fun X W g => by
  obtain ⟨ta, pa, aa⟩ := ha.run X W g
  obtain ⟨tb, pb, ab⟩ := hb'.run X W g
  have hst2 : starEach [b] X.env = (false, eval b X.env) :: starEach [] X.env := starEach_pl hp2
  have hst : starEach [a, b] X.env = [(false, eval a X.env), (false, eval b X.env)] := by rw [starEach_pl hp, hst2]; rfl
  refine ⟨_, pi_range2 (g.gl hg) (g.blt _ hb) (pa_cons pa (pa_cons pb pa_nil hst2) (starEach_pl hp)) hst hst2, fun σ H env μ H0 m R rm en h => ?_⟩
  simp only [evI] at h
  refine aa.bnd rm en h fun d μ1 v H1 H01 m1 rm1 s1 r1 en1 h1 => ?_
  refine ab.bnd rm1 en1 h1 fun e μ2 w H2 H02 m2 rm2 s2 r2 en2 h2 => ?_
  split at h2
  · rename_i i j e1 e2
    unfold rngM at h2
    split at h2
    · rename_i hj
      exact ⟨i, j, by rw [toI_int e1 r1, toI_int e2 r2], ⟨hj.1.1, hj.1.2, hj.2.1, hj.2.2⟩, h2 _ _ _ _ rm2 (s1.trans s2) goes_rng⟩
    · exact h2.elim
  · exact h2.elim⟩
theorem vi_enm {elts : List Expr} {kk : Nat} {tpos p : Pos} {a : Expr} {ea : E} (hp : plX a = true) (hb : ("enumerate" : Str) ∈ Γ.blts) (hg : giB (sc.names.lookup ("enumerate" : Str)) = true) (h : VE Γ k N sc a ea) : VI Γ k N sc (.Tuple elts kk tpos) (.Call (.Name "enumerate" p) [a] [] pos) (.enm ea) := ⟨rfl, fun X W g => by
  obtain ⟨ta, pa, aa⟩ := h.run X W g
  have hst : starEach [a] X.env = (false, eval a X.env) :: starEach [] X.env := starEach_pl hp
  refine ⟨_, pi_enum (g.gl hg) (g.blt _ hb) (pa_cons pa pa_nil hst) hst, fun σ H env μ H0 m R rm en h => ?_⟩
  simp only [evI] at h
  refine aa.bnd rm en h fun d μ1 v H1 H01 m1 rm1 s1 r1 en1 h1 => ?_
  split at h1
  · rename_i ds e1
    obtain ⟨a, rfl, G⟩ := goes_enum rm1 r1 e1
    obtain ⟨_, vs, e2, q, _⟩ := rm1.lst r1 e1
    cases e2
    exact ⟨a, vs, rfl, q, h1 _ _ _ _ rm1 s1 G⟩
  · exact h1.elim⟩
theorem vi_zip {elts : List Expr} {kk : Nat} {tpos p : Pos} {a b : Expr} {ea eb : E} (hp : plX a = true) (hp2 : plX b = true) (hb : ("zip" : Str) ∈ Γ.blts) (hg : giB (sc.names.lookup ("zip" : Str)) = true) (ha : VE Γ k N sc a ea) (hb' : VE Γ k N sc b eb) : VI Γ k N sc (.Tuple elts kk tpos) (.Call (.Name "zip" p) [a, b] [] pos) (.zip ea eb) := ⟨rfl, fun X W g => by
  obtain ⟨ta, pa, aa⟩ := ha.run X W g
  obtain ⟨tb, pb, ab⟩ := hb'.run X W g
  refine ⟨_, RZ.pi_zipA (g.gl hg) (g.blt _ hb) (pa_cons pa (pa_cons pb pa_nil (starEach_pl hp2)) (starEach_pl hp)) (starEach_pl hp) (starEach_any (by simp [hp2])), fun σ H env μ H0 m R rm en h => ?_⟩
  simp only [evI] at h
  refine aa.bnd rm en h fun d μ1 v H1 H01 m1 rm1 s1 r1 en1 h1 => ?_
  refine ab.bnd rm1 en1 h1 fun e μ2 w H2 H02 m2 rm2 s2 r2 en2 h2 => ?_
  split at h2
  · rename_i ds es e1 e2
    have r1' := r1.step s2
    obtain ⟨a, b, rfl, rfl, G⟩ := goes_zip rm2 r1' r2 e1 e2
    obtain ⟨_, vs, e3, q1, _⟩ := rm2.lst r1' e1
    cases e3
    obtain ⟨_, ws, e4, q2, _⟩ := rm2.lst r2 e2
    cases e4
    exact ⟨a, b, vs, ws, rfl, .inl ⟨q1, q2, h2 _ _ _ _ rm2 (s1.trans s2) G⟩⟩
  · split at h2
    · rename_i ds es e1 e2
      have r1' := r1.step s2
      obtain ⟨a, b, rfl, rfl, G⟩ := goes_zipT rm2 r1' r2 e1 e2
      obtain ⟨_, vs, e3, q1, _⟩ := rm2.tup r1' e1
      cases e3
      obtain ⟨_, ws, e4, q2, _⟩ := rm2.tup r2 e2
      cases e4
      exact ⟨a, b, vs, ws, rfl, .inr ⟨.of q1, .of q2, h2 _ _ _ _ rm2 (s1.trans s2) G⟩⟩
    · exact h2.elim⟩
theorem vi_rev {tg a : Expr} {ea : E} {p : Pos} (hp : plX a = true) (hb : ("reversed" : Str) ∈ Γ.blts) (hg : giB (sc.names.lookup ("reversed" : Str)) = true) (h : VE Γ k N sc a ea) : VI Γ k N sc tg (.Call (.Name "reversed" p) [a] [] pos) (.rev ea) := ⟨rfl, fun X W g => by
  obtain ⟨ta, pa, aa⟩ := h.run X W g
  have hst : starEach [a] X.env = (false, eval a X.env) :: starEach [] X.env := starEach_pl hp
  refine ⟨_, pi_reversed (g.gl hg) (g.blt _ hb) (pa_cons pa pa_nil hst) hst, fun σ H env μ H0 m R rm en h => ?_⟩
  simp only [evI] at h
  refine aa.bnd rm en h fun d μ1 v H1 H01 m1 rm1 s1 r1 en1 h1 => ?_
  split at h1
  · rename_i ds e1
    obtain ⟨a, rfl, G⟩ := goes_rev rm1 r1 e1
    obtain ⟨_, vs, e2, q, qr⟩ := rm1.lst r1 e1
    cases e2
    refine ⟨a, vs, rfl, q, ?_⟩
    rw [← reps_len qr]
    exact h1 _ _ _ _ rm1 s1 G
  · exact h1.elim⟩
end MI
/-! MI6: comprehensions. -/
namespace MI
open PySem PySem.Spec PyProof.Rows L2
variable {Γ : Gam} {k : Nat} {N : List Str} {sc : Sco} {pos : Pos}

theorem takesN0 {X : Cx} : L2N.Takes X (fun _ _ _ _ => False) := fun _ _ ⟨_, _, _, _, _, _, _, _, _, _, _, _, _, _, _, _, w⟩ => w.elim
/-- the names of a comprehension's block -/
def blkSc (sc : Sco) (scope : Scope) : Sco := { relS scope sc.toScope with cf := fun x => scope.names.lookup x == some .cell, top := false }
theorem Gd.blk {X : Cx} {W : WX} (g : Gd Γ k N sc X W) {scope : Scope} (hk : scope.kind = .function) (s : Shared) (H : Hp) (C : Addr) (cl : List (Str × Addr)) (fp : List Addr) :
    Gd Γ k N (blkSc sc scope) (X.blk s H scope (compEnvC scope cl C X.env) fp) (fun _ _ _ _ => False) where
  hN := g.hN
  nd := g.nd
  hsc := by
    show relabel scope X.env = relS scope sc.toScope
    rw [← g.hsc]
    rfl
  kind := hk
  calm := g.calm
  room := g.room
  tk := TakesB.zero
  po := PassesOwn.never
  fn := fun x h => h
  call := fun f nm h => ⟨(g.call f nm h).ok⟩
  calls := fun f nm h => ⟨(g.calls f nm h).ok⟩
  blt := g.blt
  glo := g.glo
  lev := g.lev
  cls := g.cls
  sub := g.sub
  xf := g.xf
  stk := fun z => nomatch z
  pa := fun z => nomatch z
structure VC (Γ : Gam) (k : Nat) (N : List Str) (sc : Sco) (xs : List Expr) (es : Es) : Prop where
  run : ∀ X W, Gd Γ k N sc X W → ∃ t, PTs X xs t ∧ AnsG eqR X W t (evC Γ.F es)
theorem vc_nil : VC Γ k N sc [] .nil := ⟨fun X W g => ⟨_, pts_nil, fun σ H env μ H0 m Q rm en h => by
  simp only [evC] at h
  exact h true H H0 m rm Step.refl rfl⟩⟩
theorem vc_one {x : Expr} {e : E} (h : VT Γ k N sc x e) : VC Γ k N sc [x] (.cons e .nil) := ⟨fun X W g => by
  obtain ⟨t, h1, h2⟩ := h.run X W g
  refine ⟨t, pts_one h1, fun σ H env μ H0 m Q rm en hs => h2 σ H env μ H0 m Q rm en ?_⟩
  simpa only [evC] using hs⟩
theorem EnvOk.wipe {K : PySem.W.Frag} {H0 : Hp} {m : List Addr} {env : Envv} {σ : L2.St} (en : EnvOk K H0 m env σ) : ∀ (vs : List Nat), EnvOk K H0 m (wipeD env vs) (L2.wipe σ vs)
  | [] => en
  | v :: vs => by
    have ih := EnvOk.wipe en vs
    refine ⟨by simp [wipeD, L2.wipe, ih.len], fun i d e => ?_⟩
    by_cases hi : v = i
    · subst hi
      simp only [wipeD] at e
      by_cases hl : v < (wipeD env vs).length
      · rw [List.getElem?_set_self hl] at e; cases e
      · rw [List.getElem?_eq_none (by simpa using hl)] at e; cases e
    · simp only [wipeD, L2.wipe] at e ⊢
      rw [List.getElem?_set_ne hi] at e ⊢
      exact ih.get i d e
theorem noEx_sat {α : Type} {r : R α} {P : α → Mem → Prop} {E E' : Exn → Mem → Prop} (h : Sat (noEx r) P E) : Sat r P E' := by
  cases r with
  | ok a μ => exact h
  | ex x μ => exact h.elim
  | no => exact h.elim
/-- a list that was made on the way becomes the interpreter's -/
theorem adopt {K : PySem.W.Frag} {Hb H0b H H0 : Hp} {mb m : List Addr} {μ : Mem} {fz : Bool} {ds : List D} {vs : List V} {D0 : Addr} {Q : VK} {E : Exn → Mem → Prop} (rm : RelM K H H0 m μ) (hD : H D0 = some (.lst vs)) (hm : D0 ∉ m) (h0 : H0 D0 = none) (hb : Hb D0 = none)
    (s : Step Hb H0b mb H H0 m) (r : reps K H0 m ds vs) (h : Sat (mkL fz ds μ) (PostE K Q Hb H0b mb) E) : Q (.ref D0) H := by
  unfold mkL at h
  split at h
  · cases fz with
    | true =>
      simp only at h
      split at h
      · rename_i ts e
        have h : PostE K Q Hb H0b mb (.t (.lst ts)) μ := h
        have e := toTs_map e
        have su : Same H0 (upd H0 D0 (.lst vs)) := Same.upd h0
        refine h (.ref D0) H (upd H0 D0 (.lst vs)) m ⟨fun b x e => ?_, rm.len, rm.nd, rm.ne, fun c a cl h1 h2 => ?_⟩ ⟨s.same.trans su, s.pre, s.fresh, s.frame, fun a ha => ?_⟩ ?_
        · by_cases q : b = D0
          · subst q; rw [upd_same] at e; cases e; exact hD
          · rw [upd_ne q] at e; exact rm.same b x e
        · have hp : a ≠ D0 := fun e => hm (by rw [← e]; exact List.mem_of_getElem? h1)
          exact (rm.cell c a cl h1 h2).mono su (fun _ _ z => z) (fun _ z => z) (fun z => by rw [upd_ne hp]; exact z)
        · by_cases q : a = D0
          · subst q; exact .inr (.inr hb)
          · rw [upd_ne q] at ha; exact s.frz a ha
        · simp only [rep, repT]
          refine ⟨D0, vs, rfl, upd_same, ?_⟩
          rw [repT_ts (m := m), ← e]
          exact r.mono su fun _ _ z => z
      · exact h.elim
    | false =>
      have h : PostE K Q Hb H0b mb (.ref μ.length) (μ ++ [.lst ds]) := h
      have at_ : ∀ (c : Nat) (a : Addr), m[c]? = some a → (m ++ [D0])[c]? = some a := fun c a z => by
        rw [List.getElem?_append_left (List.getElem?_eq_some_iff.mp z).1]; exact z
      refine h (.ref D0) H H0 (m ++ [D0]) ⟨rm.same, by simp [rm.len], ?_, fun a ha => ?_, fun c a cl h1 h2 => ?_⟩ ⟨s.same, ?_, fun a ha => ?_, s.frame, s.frz⟩ ?_
      · rw [List.nodup_append]
        exact ⟨rm.nd, by simp, fun a ha b hb => by
          have e : b = D0 := by simpa using hb
          rintro rfl
          exact hm (by rw [← e]; exact ha)⟩
      · rcases List.mem_append.mp ha with ha | ha
        · exact rm.ne a ha
        · have e : a = D0 := by simpa using ha
          subst e; rw [hD]; exact fun z => by cases z
      · by_cases hl : c < m.length
        · rw [List.getElem?_append_left hl] at h1
          rw [List.getElem?_append_left (by rw [← rm.len]; exact hl)] at h2
          exact (rm.cell c a cl h1 h2).mono (Same.refl _) at_ (fun _ z => z) (fun z => z)
        · rw [List.getElem?_append_right (by omega)] at h1
          rw [List.getElem?_append_right (by rw [← rm.len]; omega)] at h2
          have e : c - m.length = 0 := by
            by_cases z : c - m.length = 0
            · exact z
            · rw [List.getElem?_eq_none (by simp; omega)] at h1; cases h1
          rw [e] at h1
          rw [← rm.len, e] at h2
          simp only [List.getElem?_cons_zero, Option.some.injEq] at h1 h2
          subst h1; subst h2
          exact ⟨h0, vs, hD, r.mono (Same.refl _) at_⟩
      · obtain ⟨n, e⟩ := s.pre
        exact ⟨n ++ [D0], by rw [e, List.append_assoc]⟩
      · rcases List.mem_append.mp ha with ha | ha
        · exact s.fresh a ha
        · have e : a = D0 := by simpa using ha
          subst e; exact .inr hb
      · simp only [rep]
        exact ⟨D0, by rw [← rm.len]; simp, rfl⟩
  · exact h.elim
/-- a thing that was made on the way becomes the interpreter's -/
theorem adoptC {K : PySem.W.Frag} {Hb H0b H H0 : Hp} {mb m : List Addr} {μ : Mem} {o : HO} {cl : Cell} {D0 : Addr} {Q : VK} (rm : RelM K H H0 m μ) (hD : H D0 = some o) (hm : D0 ∉ m) (hb : Hb D0 = none)
    (s : Step Hb H0b mb H H0 m) (hc : CellOk K H H0 (m ++ [D0]) D0 cl) (h : PostE K Q Hb H0b mb (.ref μ.length) (μ ++ [cl])) : Q (.ref D0) H := by
  have at_ : ∀ (c : Nat) (a : Addr), m[c]? = some a → (m ++ [D0])[c]? = some a := fun c a z => by
    rw [List.getElem?_append_left (List.getElem?_eq_some_iff.mp z).1]; exact z
  refine h (.ref D0) H H0 (m ++ [D0]) ⟨rm.same, by simp [rm.len], ?_, fun a ha => ?_, fun c a cl' h1 h2 => ?_⟩ ⟨s.same, ?_, fun a ha => ?_, s.frame, s.frz⟩ ?_
  · rw [List.nodup_append]
    exact ⟨rm.nd, by simp, fun a ha b hb => by
      have e : b = D0 := by simpa using hb
      rintro rfl
      exact hm (by rw [← e]; exact ha)⟩
  · rcases List.mem_append.mp ha with ha | ha
    · exact rm.ne a ha
    · have e : a = D0 := by simpa using ha
      subst e; rw [hD]; exact fun z => by cases z
  · by_cases hl : c < m.length
    · rw [List.getElem?_append_left hl] at h1
      rw [List.getElem?_append_left (by rw [← rm.len]; exact hl)] at h2
      exact (rm.cell c a cl' h1 h2).mono (Same.refl _) at_ (fun _ z => z) (fun z => z)
    · rw [List.getElem?_append_right (by omega)] at h1
      rw [List.getElem?_append_right (by rw [← rm.len]; omega)] at h2
      have e : c - m.length = 0 := by
        by_cases z : c - m.length = 0
        · exact z
        · rw [List.getElem?_eq_none (by simp; omega)] at h1; cases h1
      rw [e] at h1
      rw [← rm.len, e] at h2
      simp only [List.getElem?_cons_zero, Option.some.injEq] at h1 h2
      subst h1; subst h2
      exact hc
  · obtain ⟨n, e⟩ := s.pre
    exact ⟨n ++ [D0], by rw [e, List.append_assoc]⟩
  · rcases List.mem_append.mp ha with ha | ha
    · exact s.fresh a ha
    · have e : a = D0 := by simpa using ha
      subst e; exact .inr hb
  · simp only [rep]
    exact ⟨D0, by rw [← rm.len]; simp, rfl⟩
/-- what the interpreter does not track is written -/
theorem RelM.updU {K : PySem.W.Frag} {H H0 : Hp} {m : List Addr} {μ : Mem} (rm : RelM K H H0 m μ) {o : HO} {p : Addr} (hm : p ∉ m) (h0 : H0 p = none) : RelM K (L2.upd H p o) H0 m μ := by
  refine ⟨fun b x e => ?_, rm.len, rm.nd, fun a ha => ?_, fun c a cl h1 h2 => ?_⟩
  · have q : b ≠ p := fun q => by rw [q, h0] at e; cases e
    rw [upd_ne q]
    exact rm.same b x e
  · have q : a ≠ p := fun q => hm (by rw [← q]; exact ha)
    rw [upd_ne q]
    exact rm.ne a ha
  · have q : a ≠ p := fun q => hm (by rw [← q]; exact List.mem_of_getElem? h1)
    exact (rm.cell c a cl h1 h2).mono (Same.refl _) (fun _ _ z => z) (fun o' z => by rw [upd_ne q]; exact z) (fun z => z)
theorem Step.updU {H H0 H' H0' : Hp} {m m' : List Addr} (s : Step H H0 m H' H0' m') {o : HO} {p : Addr} (h : H p = none) : Step H H0 m (L2.upd H' p o) H0' m' :=
  ⟨s.same, s.pre, s.fresh, fun b x e hb => by
    have q : b ≠ p := fun q => by rw [q, h] at e; cases e
    rw [upd_ne q]
    exact s.frame b x e hb, s.frz⟩
theorem ve_dd1 {a b : Expr} {ea eb : E} (ha : VE Γ k N sc a ea) (hb : VE Γ k N sc b eb) : VE Γ k N sc (.Dict [some a] [b] pos) (.dd1 ea eb) := ⟨fun X W g => by
  obtain ⟨ta, pa, aa⟩ := ha.run X W g
  obtain ⟨tb, pb, ab⟩ := hb.run X W g
  refine ⟨_, pe_disp (pps_cons pa pb pps_nil) rfl rfl (by simp) (by simp), fun σ H env μ H0 m Q rm en h p hp => ?_⟩
  simp only [evE] at h
  refine aa.bnd (rm.newU hp) en (h.mono (fun _ _ z => z) fun x μ z => z.later (Step.newU hp)) fun d1 μ1 v1 H1 H01 m1 rm1 s1 r1 en1 h1 => ?_
  refine ab.bnd rm1 en1 h1 fun d2 μ2 v2 H2 H02 m2 rm2 s2 r2 en2 h2 => ?_
  split at h2
  · rename_i kk e
    have h2 : PostE X.K Q H H0 m (.ref μ2.length) (μ2 ++ [.dct [(kk, d2)]]) := h2
    have e1 := keyOf_ok e (r1.step s2)
    have st := s1.trans s2
    have hpm : p ∉ m := rm.notin hp
    have hp2 : p ∉ m2 := fun z => by
      rcases st.fresh p z with z | z
      · exact hpm z
      · rw [upd_same] at z; cases z
    have h02 : H02 p = none := by
      cases q : H02 p with
      | none => rfl
      | some o =>
        rcases st.frz p (by rw [q]; simp) with z | z | z
        · exact absurd (rm.same.free hp) z
        · exact absurd z hpm
        · rw [upd_same] at z; cases z
    refine ⟨st.frame p _ upd_same hpm, [(kk, v2)], by rw [e1]; rfl, by simp, ?_⟩
    refine adoptC (cl := .dct [(kk, d2)]) (rm2.updU hp2 h02) upd_same hp2 hp (((Step.newU hp).trans st).updU hp) ⟨h02, _, upd_same, ?_⟩ h2
    show repK X.K H02 (m2 ++ [p]) [(kk, d2)] [(kk, v2)]
    exact ⟨v2, [], rfl, r2.mono (Same.refl _) (fun c a z => by
      rw [List.getElem?_append_left (List.getElem?_eq_some_iff.mp z).1]; exact z), rfl⟩
  · exact h2.elim⟩
abbrev BI := Shared × Hp × Addr × List (Str × Addr) × List Addr
abbrev bX (X : Cx) (scope : Scope) (b : BI) : Cx := X.blk b.1 b.2.1 scope (compEnvC scope b.2.2.2.1 b.2.2.1 X.env) b.2.2.2.2
/-- one reading for all blocks -/
theorem uniE {X : Cx} {W : WX} {scope : Scope} {x : Expr} {e : E} (g : Gd Γ k N sc X W) (hk : scope.kind = .function) (h : VE Γ k N (blkSc sc scope) x e) :
    ∃ t : TE, (∀ b : BI, PE (bX X scope b) x t) ∧ Ans X (fun _ _ _ _ => False) t (evE Γ.F e) := by
  have hh : ∀ b : BI, ∃ t : TE, PE (bX X scope b) x t ∧ Ans X (fun _ _ _ _ => False) t (evE Γ.F e) := fun b => h.run _ _ (g.blk hk b.1 b.2.1 b.2.2.1 b.2.2.2.1 b.2.2.2.2)
  refine ⟨fun σ H Q => ∀ b, (hh b).choose σ H Q, fun b => ⟨fun pins s σ H Q I q => ((hh b).choose_spec.1).run pins s σ H Q I (q b)⟩, fun σ H env μ H0 m Q rm en hs b => (hh b).choose_spec.2 σ H env μ H0 m Q rm en hs⟩
theorem uniC {X : Cx} {W : WX} {scope : Scope} {xs : List Expr} {es : Es} (g : Gd Γ k N sc X W) (hk : scope.kind = .function) (h : VC Γ k N (blkSc sc scope) xs es) :
    ∃ t : TT, (∀ b : BI, PTs (bX X scope b) xs t) ∧ AnsG eqR X (fun _ _ _ _ => False) t (evC Γ.F es) := by
  have hh : ∀ b : BI, ∃ t : TT, PTs (bX X scope b) xs t ∧ AnsG eqR X (fun _ _ _ _ => False) t (evC Γ.F es) := fun b => h.run _ _ (g.blk hk b.1 b.2.1 b.2.2.1 b.2.2.2.1 b.2.2.2.2)
  refine ⟨fun σ H Q => ∀ b, (hh b).choose σ H Q, fun b => ⟨fun pins s σ H Q I q => ((hh b).choose_spec.1).run pins s σ H Q I (q b)⟩, fun σ H env μ H0 m Q rm en hs b => (hh b).choose_spec.2 σ H env μ H0 m Q rm en hs⟩
theorem uniG {X : Cx} {W : WX} {scope : Scope} {x : Expr} {tg : Tg} (g : Gd Γ k N sc X W) (hk : scope.kind = .function) (h : VG Γ k N (blkSc sc scope) x tg) :
    ∃ t : TG, (∀ b : BI, PG (bX X scope b) x t) ∧ AnsT X t (asgT tg) (fun vs => tgIn vs tg) := by
  have hh : ∀ b : BI, ∃ t : TG, PG (bX X scope b) x t ∧ AnsT X t (asgT tg) (fun vs => tgIn vs tg) := fun b => h.run _ _ (g.blk hk b.1 b.2.1 b.2.2.1 b.2.2.2.1 b.2.2.2.2)
  refine ⟨fun v σ H Q => ∀ b, (hh b).choose v σ H Q, fun b => ⟨fun pins s σ H v u Q I r q => ((hh b).choose_spec.1).run pins s σ H v u Q I r (q b)⟩, fun σ H env env' H0 m d v Q s en r e q b => (hh b).choose_spec.2 σ H env env' H0 m d v Q s en r e q⟩
theorem compLoop_w {tg : Tg} {env : Envv} {c : Envv → M Bool} {el : Envv → M D} {w : Watch} {ds acc : List D} {μ : Mem} {P : List D → Mem → Prop} {E : Exn → Mem → Prop} (h : Sat (compLoop tg env c el w ds acc μ) P E) : WOk μ w := by
  cases ds with
  | nil =>
    simp only [compLoop] at h
    split at h
    · assumption
    · exact h.elim
  | cons d ds =>
    simp only [compLoop] at h
    split at h
    · assumption
    · exact h.elim
/-- the comprehension's reading -/
theorem comp_ans {X : Cx} {W : WX} {wi : TI} {gt : TG} {tt : TT} {te : TE} {fz : Bool} {own : List (Str × Nat)} {tg : Tg} {it : It} {ifs : Es} {e : E} (ai : AnsI X W wi (evI Γ.F it)) (ag : AnsT X gt (asgT tg) (fun vs => tgIn vs tg)) (ac : AnsG eqR X (fun _ _ _ _ => False) tt (evC Γ.F ifs))
    (ae : Ans X (fun _ _ _ _ => False) te (evE Γ.F e)) (hin : tgIn (own.map (·.2)) tg = true) : Ans X W (tLc wi gt tt te (own.map (·.2))) (evE Γ.F (.comp fz own tg it ifs e)) := by
  intro σ H env μ H0 m Q rm en h
  simp only [evE] at h
  show wi σ H _
  refine ai σ H env μ H0 m _ rm en (Sat.mono (Sat.bnd h) (fun p μ1 q => ?_) fun x μ1 q => q)
  intro J H1 H01 m1 rm1 s1 G D0 hD0
  split at q
  · rename_i hz
    have q := Sat.bnd q
    have hD1 : H01 D0 = none := rm1.same.free hD0
    have hDm : D0 ∉ m1 := rm1.notin hD0
    have en1 := (en.step s1).wipe (own.map (·.2))
    refine ⟨fun i n H2 => n = p.1.length - i ∧ i ≤ p.1.length ∧ ∃ H02 m2 μ2 acc vs, RelM X.K H2 H02 m2 μ2 ∧ Step H1 H01 m1 H2 H02 m2 ∧ D0 ∉ m2 ∧ H02 D0 = none ∧ H2 D0 = some (.lst vs) ∧ reps X.K H02 m2 acc vs ∧ acc.length ≤ i ∧
      Sat (compLoop tg (wipeD env (own.map (·.2))) (fun env => evC Γ.F ifs env) (fun env => evE Γ.F e env) p.2 (p.1.drop i) acc μ2) (fun a μ' => Sat (mkL fz a μ') (fun d μ' => ∀ b H' H0' m', RelM X.K H' H0' m' μ' → Step H H0 m H' H0' m' → rep X.K H0' m' d b → Q b H') (PostX X.mg X.K (fun a b => W a b σ) H H0 m)) (PostX X.mg X.K (fun a b => W a b σ) H H0 m),
      ⟨p.1.length, by simp, by simp, H01, m1, μ1, [], [], rm1.newU hD0, Step.newU hD0, hDm, hD1, upd_same, by simp [reps], by simp, by simpa using q⟩, ?_⟩
    rintro i n H2 ⟨rfl, hi, H02, m2, μ2, acc, vs, rm2, s12, hDm2, hD02, hD2, r2, ha, q2⟩
    have hw := compLoop_w q2
    by_cases hl : i < p.1.length
    · refine .inr ⟨G.go i H2 H02 m2 μ2 hl rm2 s12 hw, fun H3 => i + 1 ≤ p.1.length ∧ ∃ H02 m2 μ2 acc vs, RelM X.K H3 H02 m2 μ2 ∧ Step H1 H01 m1 H3 H02 m2 ∧ D0 ∉ m2 ∧ H02 D0 = none ∧ H3 D0 = some (.lst vs) ∧ reps X.K H02 m2 acc vs ∧ acc.length ≤ i + 1 ∧
        Sat (compLoop tg (wipeD env (own.map (·.2))) (fun env => evC Γ.F ifs env) (fun env => evE Γ.F e env) p.2 (p.1.drop (i + 1)) acc μ2) (fun a μ' => Sat (mkL fz a μ') (fun d μ' => ∀ b H' H0' m', RelM X.K H' H0' m' μ' → Step H H0 m H' H0' m' → rep X.K H0' m' d b → Q b H') (PostX X.mg X.K (fun a b => W a b σ) H H0 m)) (PostX X.mg X.K (fun a b => W a b σ) H H0 m),
        fun H3 h3 => ⟨p.1.length - (i + 1), by omega, rfl, h3.1, h3.2⟩, fun x H3 hy => ?_⟩
      obtain ⟨H03, d, hd, rm3, s3, r3⟩ := G.yld i H2 H02 m2 μ2 x H3 hl rm2 s12 hw hy
      have ed : p.1.drop i = d :: p.1.drop (i + 1) := by
        rw [List.drop_eq_getElem_cons hl]
        rw [List.getElem?_eq_getElem hl] at hd
        cases hd
        rfl
      rw [ed] at q2
      simp only [compLoop, if_pos hw] at q2
      split at q2
      · rename_i env' ea
        have en3 := (en1.step s12).step s3
        refine ag _ H3 (wipeD env (own.map (·.2))) env' H03 m2 d x _ rm3.same en3 r3 ea fun σ' en' hwp => ⟨?_, ?_⟩
        · rw [hwp _ hin, wipe_wipe fun i hi => hi]
        · have q2 := Sat.bnd q2
          refine ac σ' H3 env' μ2 H03 m2 _ rm3 en' (Sat.mono (noEx_sat q2) (fun b μ3 q3 => ?_) fun x μ3 q => q)
          intro b' H4 H04 m4 rm4 s4 eb
          cases eb
          have hD4 : H4 D0 = some (.lst vs) := s4.frame D0 _ (s3.frame D0 _ hD2 hDm2) hDm2
          have s24 := s3.trans s4
          cases b with
          | true =>
            rw [if_pos rfl] at q3 ⊢
            have q3 := Sat.bnd q3
            have hDm4 : D0 ∉ m4 := fun hm => by
              rcases s24.fresh D0 hm with z | z
              · exact hDm2 z
              · rw [hD2] at z; cases z
            refine ae σ' H4 env' μ3 H04 m4 _ rm4 (en'.step s4) (Sat.mono (noEx_sat q3) (fun y μ4 q4 => ?_) fun x μ3 q => q)
            intro v H5 H05 m5 rm5 s5 r5
            have hD5 : H5 D0 = some (.lst vs) := s5.frame D0 _ hD4 hDm4
            have s25 := s24.trans s5
            have hDm5 : D0 ∉ m5 := fun hm => by
              rcases s25.fresh D0 hm with z | z
              · exact hDm2 z
              · rw [hD2] at z; cases z
            have r2' := r2.step s25
            refine ⟨vs, hD5, by rw [← reps_len r2']; omega, ?_⟩
            have hD05 : H05 D0 = none := by
              by_cases z : H05 D0 = none
              · exact z
              · rcases s25.frz D0 z with z | z | z
                · exact absurd hD02 z
                · exact absurd z hDm2
                · rw [hD2] at z; cases z
            refine ⟨hl, H05, m5, μ4, acc ++ [y], vs ++ [v], ⟨fun b x e => ?_, rm5.len, rm5.nd, fun a ha => ?_, fun c a cl h1 h2 => ?_⟩, ?_, hDm5, hD05, upd_same, reps_append r2' (by simp only [reps]; exact ⟨v, [], rfl, r5, rfl⟩), by simp; omega, q4⟩
            · have : b ≠ D0 := fun z => by subst z; rw [hD05] at e; cases e
              rw [upd_ne this]; exact rm5.same b x e
            · have : a ≠ D0 := fun z => by subst z; exact hDm5 ha
              rw [upd_ne this]; exact rm5.ne a ha
            · have : a ≠ D0 := fun z => by subst z; exact hDm5 (List.mem_of_getElem? h1)
              exact (rm5.cell c a cl h1 h2).mono (Same.refl _) (fun _ _ z => z) (fun o z => by rw [upd_ne this]; exact z) (fun z => z)
            · have st := s12.trans s25
              refine ⟨st.same, st.pre, st.fresh, fun b o e hn => ?_, st.frz⟩
              rw [upd_ne fun z => by subst z; rw [hD0] at e; cases e]
              exact st.frame b o e hn
          | false =>
            rw [if_neg Bool.false_ne_true] at q3 ⊢
            have hDm4 : D0 ∉ m4 := fun hm => by
              rcases s24.fresh D0 hm with z | z
              · exact hDm2 z
              · rw [hD2] at z; cases z
            have hD04 : H04 D0 = none := by
              by_cases z : H04 D0 = none
              · exact z
              · rcases s24.frz D0 z with z | z | z
                · exact absurd hD02 z
                · exact absurd z hDm2
                · rw [hD2] at z; cases z
            exact ⟨hl, H04, m4, μ3, acc, vs, rm4, s12.trans s24, hDm4, hD04, hD4, r2.step s24, by omega, q3⟩
      · exact q2.elim
    · have hi' : i = p.1.length := by omega
      subst hi'
      refine .inl ⟨G.stop H2 H02 m2 μ2 rm2 s12 hw, ?_⟩
      rw [List.drop_length] at q2
      simp only [compLoop, if_pos hw] at q2
      exact adopt rm2 hD2 hDm2 hD02 (Hb := H) (H0b := H0) (mb := m) ((s1.free hD0).resolve_left fun z => hDm (s1.mem _ z)) (s1.trans s12) r2 q2
  · exact q.elim

/-- own names by their slots, a block's text -/
theorem ve_comp {elt tg iter : Expr} {ifs : List Expr} {scope : Scope} {own : List (Str × Nat)} {fz : Bool} {t : Tg} {it : It} {es : Es} {e : E} (hb : blkC N sc.toScope scope own = true) (hi : VI Γ k N sc tg iter it) (hg : VG Γ k N (blkSc sc scope) tg t) (hc : VC Γ k N (blkSc sc scope) ifs es)
    (he : VE Γ k N (blkSc sc scope) elt e) (hin : tgIn (own.map (·.2)) t = true) : VE Γ k N sc (.ListComp elt [⟨tg, iter, ifs, 0⟩] scope pos) (.comp fz own t it es e) := ⟨fun X W g => by
  have ok : BlkOk X.N X.env.scope scope own := by rw [g.hN, g.hsc]; exact blkOk_by hb
  obtain ⟨wi, pi, ai⟩ := hi.run X W g
  obtain ⟨gt, pg, ag⟩ := uniG g ok.kind hg
  obtain ⟨tt, pt, ac⟩ := uniC g ok.kind hc
  obtain ⟨te, pe, ae⟩ := uniE g ok.kind he
  exact ⟨_, pe_lc g.calm (by rw [g.hN]; exact g.nd) pi ok (fun s H C cl fp => pg (s, H, C, cl, fp)) (fun s H C cl fp => pt (s, H, C, cl, fp)) (fun s H C cl fp => pe (s, H, C, cl, fp)) (folded_pl hi.pl), comp_ans ai ag ac ae hin⟩⟩
end MI
/-! MI7: statements. -/
namespace MI
open PySem PySem.Spec PyProof.Rows L2
variable {Γ : Gam} {k : Nat} {N : List Str} {sc : Sco} {pos : Pos}

def SatO (r : Option (Out × Mem)) (P : Out → Mem → Prop) : Prop := match r with
  | some (o, μ) => P o μ
  | none => False
theorem SatO.mono {r : Option (Out × Mem)} {P P' : Out → Mem → Prop} (h : SatO r P) (hp : ∀ o μ, P o μ → P' o μ) : SatO r P' := by
  cases r with
  | some p => exact hp _ _ h
  | none => exact h
def PostS (X : Cx) (W : WX) (D : Ends) (H H0 : Hp) (m : List Addr) : Out → Mem → Prop := fun o μ' => ∀ H' H0' m', RelM X.K H' H0' m' μ' → Step H H0 m H' H0' m' → match o with
  | .nx env' => ∀ σ', EnvOk X.K H0' m' env' σ' → D.nx σ' H'
  | .bk env' => ∀ σ', EnvOk X.K H0' m' env' σ' → D.bk σ' H'
  | .ct env' => ∀ σ', EnvOk X.K H0' m' env' σ' → D.ct σ' H'
  | .rt d => ∀ v, rep X.K H0' m' d v → D.rt v H'
  | .ex x env' => ∀ σ' cls dd, EnvOk X.K H0' m' env' σ' → ExOk X.mg X.K H0' x cls dd → W cls dd σ' H'
theorem PostS.later {X : Cx} {W : WX} {D : Ends} {H H0 H1 H01 : Hp} {m m1 : List Addr} {o : Out} {μ : Mem} (h : PostS X W D H H0 m o μ) (s : Step H H0 m H1 H01 m1) : PostS X W D H1 H01 m1 o μ :=
  fun H' H0' m' r s' => h H' H0' m' r (s.trans s')
def AnsS (X : Cx) (W : WX) (t : TS) (c : Envv → MO) : Prop := ∀ σ H env μ H0 m (D : Ends), RelM X.K H H0 m μ → EnvOk X.K H0 m env σ → SatO (c env μ) (PostS X W D H H0 m) → t D σ H
structure VS (Γ : Gam) (k : Nat) (N : List Str) (sc : Sco) (x : Stmt) (s : S) : Prop where
  run : ∀ X W, Gd Γ k N sc X W → ∃ t, PS X x t ∧ AnsS X W t (evS Γ.F s)
structure VSs (Γ : Gam) (k : Nat) (N : List Str) (sc : Sco) (xs : List Stmt) (ss : Ss) : Prop where
  run : ∀ X W, Gd Γ k N sc X W → ∃ t, PSs X xs t ∧ AnsS X W t (evSs Γ.F ss)
theorem SatO.lift {α : Type} {x : M α} {env : Envv} {f : α → MO} {μ : Mem} {P : Out → Mem → Prop} (h : SatO (lift x env f μ) P) : Sat (x μ) (fun a μ' => SatO (f a μ') P) (fun e μ' => P (.ex e env) μ') := by
  unfold MI.lift at h
  cases e : x μ with
  | ok a μ' => rw [e] at h; exact h
  | ex y μ' => rw [e] at h; exact h
  | no => rw [e] at h; exact h
theorem AnsG.lift {α β : Type} {ρ : PySem.W.Frag → Hp → List Addr → α → β → Prop} {X : Cx} {W : WX} {t : L2.St → Hp → (β → Hp → Prop) → Prop} {c : Envv → M α} (ha : AnsG ρ X W t c) {σ : L2.St} {H H0 : Hp} {env : Envv} {μ : Mem} {m : List Addr} {f : α → MO} {D : Ends} {R : β → Hp → Prop}
    (rm : RelM X.K H H0 m μ) (en : EnvOk X.K H0 m env σ) (h : SatO (MI.lift (c env) env f μ) (PostS X W D H H0 m))
    (k : ∀ d μ1 v H1 H01 m1, RelM X.K H1 H01 m1 μ1 → Step H H0 m H1 H01 m1 → ρ X.K H01 m1 d v → EnvOk X.K H01 m1 env σ → SatO (f d μ1) (PostS X W D H1 H01 m1) → R v H1) : t σ H R := by
  refine ha σ H env μ H0 m R rm en (Sat.mono (SatO.lift h) (fun d μ1 q => ?_) fun x μ1 q => ?_)
  · intro v H1 H01 m1 rm1 s1 r1
    exact k d μ1 v H1 H01 m1 rm1 s1 r1 (en.step s1) (q.mono fun o μ2 z => z.later s1)
  · intro cls dd H' H0' m' rm' s' ex
    exact q H' H0' m' rm' s' σ cls dd (en.step s') ex

/-! ### blocks -/
theorem vss_nil : VSs Γ k N sc [] .nil := ⟨fun X W g => ⟨_, pss_nil, fun σ H env μ H0 m D rm en h => by
  simp only [evSs, outO] at h
  exact h H H0 m rm Step.refl σ en⟩⟩
theorem SatO.seq {x : MO} {f : Envv → MO} {μ : Mem} {P : Out → Mem → Prop} (h : SatO (andThen x f μ) P) : SatO (x μ) (fun o μ' => match o with
    | .nx env => SatO (f env μ') P
    | o => P o μ') := by
  unfold andThen at h
  cases e : x μ with
  | none => rw [e] at h; exact h
  | some p =>
    obtain ⟨o, μ'⟩ := p
    rw [e] at h
    cases o <;> exact h
theorem vss_cons {x : Stmt} {xs : List Stmt} {s : S} {ss : Ss} (h1 : VS Γ k N sc x s) (h2 : VSs Γ k N sc xs ss) : VSs Γ k N sc (x :: xs) (.cons s ss) := ⟨fun X W g => by
  obtain ⟨t1, p1, a1⟩ := h1.run X W g
  obtain ⟨t2, p2, a2⟩ := h2.run X W g
  refine ⟨_, pss_cons p1 p2, fun σ H env μ H0 m D rm en h => ?_⟩
  simp only [evSs] at h
  refine a1 σ H env μ H0 m { D with nx := t2 D } rm en (SatO.mono (SatO.seq h) fun o μ1 q => ?_)
  intro H1 H01 m1 rm1 s1
  cases o with
  | nx env1 => exact fun σ1 en1 => a2 σ1 H1 env1 μ1 H01 m1 D rm1 en1 (q.mono fun o μ z => z.later s1)
  | rt d => exact fun v r => q H1 H01 m1 rm1 s1 v r
  | bk env1 => exact fun σ1 en1 => q H1 H01 m1 rm1 s1 σ1 en1
  | ct env1 => exact fun σ1 en1 => q H1 H01 m1 rm1 s1 σ1 en1
  | ex x env1 => exact fun σ1 cls dd en1 ex => q H1 H01 m1 rm1 s1 σ1 cls dd en1 ex⟩

/-! ### small statements -/
theorem vs_pss : VS Γ k N sc (.Pass pos) .pss := ⟨fun X W g => ⟨_, ps_pass, fun σ H env μ H0 m D rm en h => by
  simp only [evS, outO] at h
  exact h H H0 m rm Step.refl σ en⟩⟩
theorem vs_unk {x : Stmt} : VS Γ k N sc x .unk := ⟨fun X W g => ⟨fun _ _ _ => False, ⟨fun pins s σ H D I z => z.elim⟩, fun σ H env μ H0 m D rm en h => by
  simp only [evS] at h
  exact h.elim⟩⟩
theorem vs_brk : VS Γ k N sc (.Break pos) .brk := ⟨fun X W g => ⟨_, ps_break, fun σ H env μ H0 m D rm en h => by
  simp only [evS, outO] at h
  exact h H H0 m rm Step.refl σ en⟩⟩
theorem vs_cnt : VS Γ k N sc (.Continue pos) .cnt := ⟨fun X W g => ⟨_, ps_continue, fun σ H env μ H0 m D rm en h => by
  simp only [evS, outO] at h
  exact h H H0 m rm Step.refl σ en⟩⟩
theorem vs_retN : VS Γ k N sc (.Return none pos) .retN := ⟨fun X W g => ⟨_, ps_retN, fun σ H env μ H0 m D rm en h => by
  simp only [evS, outO] at h
  exact h H H0 m rm Step.refl .non (rep_non.mpr rfl)⟩⟩
/-- what never runs -/
theorem vs_ret {x : Expr} {e : E} (h : VE Γ k N sc x e) : VS Γ k N sc (.Return (some x) pos) (.ret e) := ⟨fun X W g => by
  obtain ⟨t, p, a⟩ := h.run X W g
  refine ⟨_, ps_ret p, fun σ H env μ H0 m D rm en h => ?_⟩
  simp only [evS] at h
  refine a.lift rm en h fun d μ1 v H1 H01 m1 rm1 s1 r1 en1 h1 => ?_
  exact h1 H1 H01 m1 rm1 Step.refl v r1⟩
theorem vs_xpr {x : Expr} {e : E} (hp : plX x = true) (hl : notLc x = true) (h : VE Γ k N sc x e) : VS Γ k N sc (.Expr x pos) (.xpr e) := ⟨fun X W g => by
  obtain ⟨t, p, a⟩ := h.run X W g
  refine ⟨_, ps_expr p (swaps_pl hp hl), fun σ H env μ H0 m D rm en h => ?_⟩
  simp only [evS] at h
  refine a.lift rm en h fun d μ1 v H1 H01 m1 rm1 s1 r1 en1 h1 => ?_
  exact h1 H1 H01 m1 rm1 Step.refl σ en1⟩
theorem vs_if {c : Expr} {a b : List Stmt} {ec : E} {sa sb : Ss} (hc : VT Γ k N sc c ec) (ha : VSs Γ k N sc a sa) (hb : VSs Γ k N sc b sb) : VS Γ k N sc (.If c a b pos) (.ife ec sa sb) := ⟨fun X W g => by
  obtain ⟨tc, pc, ac⟩ := hc.run X W g
  obtain ⟨ta, pa, aa⟩ := ha.run X W g
  obtain ⟨tb, pb, ab⟩ := hb.run X W g
  refine ⟨_, ps_if pc pa pb, fun σ H env μ H0 m D rm en h => ?_⟩
  simp only [evS] at h
  refine ac.lift rm en h fun d μ1 v H1 H01 m1 rm1 s1 r1 en1 h1 => ?_
  cases r1
  cases d with
  | true =>
    rw [if_pos rfl] at h1 ⊢
    exact aa σ H1 env μ1 H01 m1 D rm1 en1 h1
  | false =>
    rw [if_neg Bool.false_ne_true] at h1 ⊢
    exact ab σ H1 env μ1 H01 m1 D rm1 en1 h1⟩
/-! ### stores -/
theorem vs_asg {t x : Expr} {tg : Tg} {e : E} (hp : plX x = true) (hl : notLc x = true) (ht : notTL x = true) (hg : VG Γ k N sc t tg) (he : VE Γ k N sc x e) : VS Γ k N sc (.Assign [t] x pos) (.asg tg e) := ⟨fun X W g => by
  obtain ⟨te, pe, ae⟩ := he.run X W g
  obtain ⟨tt, pt, at_⟩ := hg.run X W g
  have hs : swappedStores [t] x X.env = pure none := by
    cases x
    case Tuple => simp [notTL] at ht
    case List => simp [notTL] at ht
    all_goals (cases t <;> rfl)
  refine ⟨_, ps_asg pe pt (show swapsWithSole [t] x pos.line X.env = pure false from swaps_pl hp hl) hs (by rw [assignEach_tg hg.tx]; rfl), fun σ H env μ H0 m D rm en h => ?_⟩
  simp only [evS] at h
  refine ae.lift rm en h fun d μ1 v H1 H01 m1 rm1 s1 r1 en1 h1 => ?_
  split at h1
  · rename_i env' e1
    exact at_ σ H1 env env' H01 m1 d v _ rm1.same en1 r1 e1 fun σ' en' _ => h1 H1 H01 m1 rm1 Step.refl σ' en'
  · exact h1.elim⟩
/-- name = e, e of any form but a comprehension -/
theorem vs_set {x : Expr} {i : Nat} {nm : Str} {e : E} {p : Pos} (hp : plX x = true) (hl : notLc x = true) (h1 : N[i]? = some nm) (h2 : locS sc nm = true) (he : VE Γ k N sc x e) : VS Γ k N sc (.Assign [.Name nm p] x pos) (.asg (.nm i) e) := ⟨fun X W g => by
  obtain ⟨te, pe, ae⟩ := he.run X W g
  obtain ⟨l1, l2⟩ := g.loc h2
  refine ⟨_, ps_set (i := i) (by rw [g.hN]; exact g.nd) (by rw [g.hN]; exact h1) l1 pe (swaps_pl hp hl) l2, fun σ H env μ H0 m D rm en h => ?_⟩
  simp only [evS] at h
  refine ae.lift rm en h fun d μ1 v H1 H01 m1 rm1 s1 r1 en1 h1 => ?_
  simp only [asgT] at h1
  exact h1 H1 H01 m1 rm1 Step.refl _ (en1.set r1)⟩
/-- name = [..] -/
theorem vs_setLc {i : Nat} {nm : Str} {p : Pos} {elt tg iter : Expr} {ifs : List Expr} {scope : Scope} {own : List (Str × Nat)} {fz : Bool} {t : Tg} {it : It} {es : Es} {e : E} {lpos : Pos} (h1 : N[i]? = some nm) (h2 : sc.names.lookup nm = some .local) (hln : (p.line == lpos.line) = true)
    (hnot : (scope.names.any fun (n, k) => n == nm && (k == .local || k == .cell)) = false) (hb : blkC N sc.toScope scope own = true) (hi : VI Γ k N sc tg iter it) (hg : VG Γ k N (blkSc sc scope) tg t) (hc : VC Γ k N (blkSc sc scope) ifs es) (he : VE Γ k N (blkSc sc scope) elt e) (hin : tgIn (own.map (·.2)) t = true) :
    VS Γ k N sc (.Assign [.Name nm p] (.ListComp elt [⟨tg, iter, ifs, 0⟩] scope lpos) pos) (.asg (.nm i) (.comp fz own t it es e)) := ⟨fun X W g => by
  have ok : BlkOk X.N X.env.scope scope own := by rw [g.hN, g.hsc]; exact blkOk_by hb
  obtain ⟨wi, pi, ai⟩ := hi.run X W g
  obtain ⟨gt, pg, ag⟩ := uniG g ok.kind hg
  obtain ⟨tt, pt, ac⟩ := uniC g ok.kind hc
  obtain ⟨te, pe, ae⟩ := uniE g ok.kind he
  have hk : X.env.scope.kind = .function := by rw [g.hsc]; exact g.kind
  have hy : X.env.scope.names.lookup nm = some .local := by rw [g.hsc]; exact h2
  refine ⟨_, ps_setLc (i := i) g.calm (by rw [g.hN]; exact g.nd) (by rw [g.hN]; exact h1) hy (sw_true hk hy hln hnot) pi ok (fun s H C cl fp => pg (s, H, C, cl, fp)) (fun s H C cl fp => pt (s, H, C, cl, fp)) (fun s H C cl fp => pe (s, H, C, cl, fp)) (folded_pl hi.pl), fun σ H env μ H0 m D rm en h => ?_⟩
  have cA := comp_ans (fz := fz) ai ag ac ae hin
  rw [evS] at h
  refine cA.lift rm en h fun d μ1 v H1 H01 m1 rm1 s1 r1 en1 h1 => ?_
  simp only [asgT] at h1
  exact h1 H1 H01 m1 rm1 Step.refl _ (en1.set r1)⟩
/-- name = [..], the name captured by the comprehension -/
theorem vs_setLcC {i : Nat} {nm : Str} {p : Pos} {elt : Expr} {gs : List Comprehension} {scope : Scope} {e : E} {lpos : Pos} (h1 : N[i]? = some nm) (h2 : locS sc nm = true) (h3 : sc.names.lookup nm ≠ some .local) (he : VE Γ k N sc (.ListComp elt gs scope lpos) e) :
    VS Γ k N sc (.Assign [.Name nm p] (.ListComp elt gs scope lpos) pos) (.asg (.nm i) e) := ⟨fun X W g => by
  obtain ⟨te, pe, ae⟩ := he.run X W g
  obtain ⟨l1, l2⟩ := g.loc h2
  have hs : swapsWith (.ListComp elt gs scope lpos) (some (.Name nm p)) pos.line X.env = pure false := by
    have hk : (X.env.kindOf nm == some .local) = false := by
      unfold Env.kindOf
      rw [g.hsc]
      exact beq_eq_false_iff_ne.mpr h3
    unfold swapsWith
    simp only [hk, Bool.and_false, Bool.false_and]
  refine ⟨_, ps_set (i := i) (by rw [g.hN]; exact g.nd) (by rw [g.hN]; exact h1) l1 pe hs l2, fun σ H env μ H0 m D rm en h => ?_⟩
  rw [evS] at h
  refine ae.lift rm en h fun d μ1 v H1 H01 m1 rm1 s1 r1 en1 h1 => ?_
  simp only [asgT] at h1
  exact h1 H1 H01 m1 rm1 Step.refl _ (en1.set r1)⟩
theorem set_dict {X : Cx} (hu : X.A.units + 1 < cLine) : PSet X (fun o i v H Q => ∃ a H', o = .ref a ∧ DPut H a i v H' ∧ Q H') := by
  intro pins s σ H o i v ov iv u Q I ro ri rv h
  obtain ⟨a, H', rfl, g, q⟩ := h
  cases ro
  exact d_setItem hu I g ri rv fun s' I' => ⟨H', I', q⟩
theorem PSet.or {X : Cx} {t t' : TSet} (h : PSet X t) (h' : PSet X t') : PSet X (fun o i v H Q => t o i v H Q ∨ t' o i v H Q) := by
  intro pins s σ H o i v ov iv u Q I ro ri rv q
  rcases q with q | q
  · exact h pins s σ H o i v ov iv u Q I ro ri rv q
  · exact h' pins s σ H o i v ov iv u Q I ro ri rv q
theorem setD_ok {K : PySem.W.Frag} {H H0 : Hp} {m : List Addr} {μ μ' : Mem} {x y d : D} {o i v : V} {Q : Hp → Prop} (rm : RelM K H H0 m μ) (rx : rep K H0 m x o) (ry : rep K H0 m y i) (rd : rep K H0 m d v) (h : setD x y d μ = some μ')
    (q : ∀ H', RelM K H' H0 m μ' → Step H H0 m H' H0 m → Q H') : rSetL o i v H Q ∨ ∃ a H', o = .ref a ∧ DPut H a i v H' ∧ Q H' := by
  unfold setD at h
  split at h
  · rename_i c
    simp only [rep] at rx
    obtain ⟨a, h1, rfl⟩ := rx
    split at h
    · rename_i xs h2
      obtain ⟨h0, vs, h3, h4⟩ := rm.ref h1 h2
      split at h
      · rename_i n e1
        split at h
        · rename_i j e2
          cases h
          refine .inl ⟨a, vs, n, j, rfl, toI_int e1 ry, h3, ?_, ?_⟩
          · rw [← reps_len h4]; exact e2
          · exact q _ (rm.setC h1 h0 ⟨h0, _, upd_same, reps_set j h4 rd⟩) (Step.setC h1)
        · cases h
      · cases h
    · rename_i kds h2
      obtain ⟨h0, kvs, h3, h4⟩ := rm.ref h1 h2
      split at h
      · rename_i kk e1
        split at h
        · rename_i hz
          cases h
          rw [keyOf_ok e1 ry]
          refine .inr ⟨a, _, rfl, DPut.k h3 (by rw [← repK_len h4]; exact hz), ?_⟩
          exact q _ (rm.setC h1 h0 ⟨h0, _, upd_same, repK_put h4 rd⟩) (Step.setC h1)
        · cases h
      · cases h
    · rename_i kds h2
      obtain ⟨h0, kvs, h3, h4⟩ := rm.ref h1 h2
      split at h
      · rename_i kk e1
        split at h
        · rename_i hz
          cases h
          obtain ⟨b, rfl, eb⟩ := keyTOf_ok e1 ry
          refine .inr ⟨a, _, rfl, DPut.t h3 (rm.same _ _ eb) (by rw [← repK_len h4]; exact hz), ?_⟩
          exact q _ (rm.setC h1 h0 ⟨h0, _, upd_same, repK_put h4 rd⟩) (Step.setC h1)
        · cases h
      · cases h
    · cases h
  · cases h
theorem vs_setx {o i x : Expr} {eo ei e : E} {p : Pos} (hp : plX x = true) (hl : notLc x = true) (hi' : plX i = true) (ho : VE Γ k N sc o eo) (hi : VE Γ k N sc i ei) (he : VE Γ k N sc x e) : VS Γ k N sc (.Assign [.Subscript o i p] x pos) (.setx eo ei e) := ⟨fun X W g => by
  obtain ⟨te, pe, ae⟩ := he.run X W g
  obtain ⟨to, po, ao⟩ := ho.run X W g
  obtain ⟨ti, pi, ai⟩ := hi.run X W g
  have hpg : PG X (.Subscript o i p) (gSub to ti fun o i v H Q => rSetL o i v H Q ∨ ∃ a H', o = .ref a ∧ DPut H a i v H' ∧ Q H') := pg_sub po pi (PSet.or set_list (set_dict (by have := g.hu; omega))) (fun v => by
    cases i <;> first | rfl | (exact nomatch hi'))
  refine ⟨_, ps_asg pe hpg (by
      have := swaps_pl (t := some (.Subscript o i p)) (l := pos.line) (env := X.env) hp hl
      unfold swapsWithSole
      exact this) (by cases x <;> rfl) rfl, fun σ H env μ H0 m D rm en h => ?_⟩
  simp only [evS] at h
  refine ae.lift rm en h fun d μ1 v H1 H01 m1 rm1 s1 r1 en1 h1 => ?_
  refine ao.lift rm1 en1 h1 fun x μ2 w H2 H02 m2 rm2 s2 r2 en2 h2 => ?_
  refine ai.lift rm2 en2 h2 fun y μ3 u H3 H03 m3 rm3 s3 r3 en3 h3 => ?_
  split at h3
  · rename_i μ' e1
    exact setD_ok rm3 (r2.step s3) r3 (r1.step (s2.trans s3)) e1 fun H' rm' s' => h3 H' H03 m3 rm' s' σ (en3.step s')
  · exact h3.elim⟩

/-! ### loops -/
theorem forLoop_w {tg : Tg} {b : Envv → MO} {w : Watch} {ds : List D} {env : Envv} {μ : Mem} {P : Out → Mem → Prop} (h : SatO (forLoop tg b w ds env μ) P) : WOk μ w := by
  cases ds with
  | nil =>
    simp only [forLoop] at h
    split at h
    · assumption
    · exact h.elim
  | cons d ds =>
    simp only [forLoop] at h
    split at h
    · assumption
    · exact h.elim
theorem vs_for {tg iter : Expr} {body : List Stmt} {t : Tg} {it : It} {ss : Ss} (hi : VI Γ k N sc tg iter it) (hg : VG Γ k N sc tg t) (hb : VSs Γ k N sc body ss) : VS Γ k N sc (.For tg iter body [] pos) (.for t it ss) := ⟨fun X W g => by
  obtain ⟨wi, pi, ai⟩ := hi.run X W g
  obtain ⟨gt, pg, ag⟩ := hg.run X W g
  obtain ⟨tb, pb, ab⟩ := hb.run X W g
  refine ⟨_, ps_for g.po g.calm pi pg pb (folded_pl hi.pl), fun σ H env μ H0 m D rm en h => ?_⟩
  simp only [evS] at h
  refine ai σ H env μ H0 m _ rm en (Sat.mono (SatO.lift h) (fun p μ1 q => ?_) fun x μ1 q cls dd H' H0' m' rm' s' ex => q H' H0' m' rm' s' σ cls dd (en.step s') ex)
  intro J H1 H01 m1 rm1 s1 G
  refine ⟨fun i n σ2 H2 => n = p.1.length - i ∧ i ≤ p.1.length ∧ ∃ H02 m2 μ2 env2, RelM X.K H2 H02 m2 μ2 ∧ Step H1 H01 m1 H2 H02 m2 ∧ EnvOk X.K H02 m2 env2 σ2 ∧ SatO (forLoop t (fun env => evSs Γ.F ss env) p.2 (p.1.drop i) env2 μ2) (PostS X W D H2 H02 m2),
    ⟨p.1.length, by simp, by simp, H01, m1, μ1, env, rm1, Step.refl, en.step s1, by simpa using q.mono fun o μ z => z.later s1⟩, ?_⟩
  rintro i n σ2 H2 ⟨rfl, hi, H02, m2, μ2, env2, rm2, s2, en2, q2⟩
  have hw := forLoop_w q2
  by_cases hl : i < p.1.length
  · refine .inr ⟨G.go i H2 H02 m2 μ2 hl rm2 s2 hw, fun σ3 H3 => i + 1 ≤ p.1.length ∧ ∃ H02 m2 μ2 env2, RelM X.K H3 H02 m2 μ2 ∧ Step H1 H01 m1 H3 H02 m2 ∧ EnvOk X.K H02 m2 env2 σ3 ∧ SatO (forLoop t (fun env => evSs Γ.F ss env) p.2 (p.1.drop (i + 1)) env2 μ2) (PostS X W D H3 H02 m2),
      fun σ3 H3 h3 => ⟨p.1.length - (i + 1), by omega, rfl, h3.1, h3.2⟩, fun x H3 hy => ?_⟩
    obtain ⟨H03, d, hd, rm3, s3, r3⟩ := G.yld i H2 H02 m2 μ2 x H3 hl rm2 s2 hw hy
    have ed : p.1.drop i = d :: p.1.drop (i + 1) := by
      rw [List.drop_eq_getElem_cons hl]
      rw [List.getElem?_eq_getElem hl] at hd
      cases hd
      rfl
    rw [ed] at q2
    simp only [forLoop, if_pos hw] at q2
    split at q2
    · rename_i env' ea
      refine ag σ2 H3 env2 env' H03 m2 d x _ rm3.same (en2.step s3) r3 ea fun σ' en' _ => ?_
      refine ab σ' H3 env' μ2 H03 m2 _ rm3 en' ?_
      cases eb : evSs Γ.F ss env' μ2 with
      | none => rw [eb] at q2; exact q2
      | some r =>
        obtain ⟨o, μ3⟩ := r
        rw [eb] at q2
        intro H4 H04 m4 rm4 s4
        have s34 := s3.trans s4
        cases o with
        | nx env4 => exact fun σ4 en4 => ⟨hl, H04, m4, μ3, env4, rm4, s2.trans s34, en4, SatO.mono q2 fun o μ z => z.later s34⟩
        | ct env4 => exact fun σ4 en4 => ⟨hl, H04, m4, μ3, env4, rm4, s2.trans s34, en4, SatO.mono q2 fun o μ z => z.later s34⟩
        | bk env4 => exact fun σ4 en4 => q2 H4 H04 m4 rm4 s34 σ4 en4
        | rt d4 => exact fun v r => q2 H4 H04 m4 rm4 s34 v r
        | ex x env4 => exact fun σ4 cls dd en4 ex => q2 H4 H04 m4 rm4 s34 σ4 cls dd en4 ex
    · exact q2.elim
  · have hi' : i = p.1.length := by omega
    subst hi'
    refine .inl ⟨G.stop H2 H02 m2 μ2 rm2 s2 hw, ?_⟩
    rw [List.drop_length] at q2
    simp only [forLoop, if_pos hw] at q2
    exact q2 H2 H02 m2 rm2 Step.refl σ2 en2⟩
theorem vs_whl {c : Expr} {body : List Stmt} {ec : E} {ss : Ss} {n0 : Nat} (hc : VT Γ k N sc c ec) (hb : VSs Γ k N sc body ss) : VS Γ k N sc (.While c body [] pos) (.whl n0 ec ss) := ⟨fun X W g => by
  obtain ⟨tc, pc, ac⟩ := hc.run X W g
  obtain ⟨tb, pb, ab⟩ := hb.run X W g
  refine ⟨_, ps_while g.po pc pb, fun σ H env μ H0 m D rm en h => ?_⟩
  simp only [evS] at h
  refine ⟨fun n σ2 H2 => ∃ H02 m2 μ2 env2, RelM X.K H2 H02 m2 μ2 ∧ Step H H0 m H2 H02 m2 ∧ EnvOk X.K H02 m2 env2 σ2 ∧ SatO (whlLoop (fun env => bnd (evE Γ.F ec env) toB) (fun env => evSs Γ.F ss env) n env2 μ2) (PostS X W D H2 H02 m2),
    ⟨n0, H0, m, μ, env, rm, Step.refl, en, h⟩, ?_⟩
  rintro n σ2 H2 ⟨H02, m2, μ2, env2, rm2, s2, en2, q2⟩
  cases n with
  | zero => exact q2.elim
  | succ n =>
    simp only [whlLoop] at q2
    refine ac.lift (D := D) rm2 en2 q2 fun b μ3 b' H3 H03 m3 rm3 s3 r3 en3 q3 => ?_
    cases r3
    cases b with
    | true =>
      rw [if_pos rfl] at q3 ⊢
      refine ⟨fun σ4 H4 => ∃ H02 m2 μ2 env2, RelM X.K H4 H02 m2 μ2 ∧ Step H H0 m H4 H02 m2 ∧ EnvOk X.K H02 m2 env2 σ4 ∧ SatO (whlLoop (fun env => bnd (evE Γ.F ec env) toB) (fun env => evSs Γ.F ss env) n env2 μ2) (PostS X W D H4 H02 m2),
        fun σ4 H4 h4 => ⟨n, Nat.lt_succ_self n, h4⟩, ?_⟩
      refine ab σ2 H3 env2 μ3 H03 m3 _ rm3 en3 ?_
      cases eb : evSs Γ.F ss env2 μ3 with
      | none => simp only [eb] at q3; exact q3
      | some r =>
        obtain ⟨o, μ4⟩ := r
        simp only [eb] at q3
        intro H4 H04 m4 rm4 s4
        have s34 := s3.trans s4
        cases o with
        | nx env4 => exact fun σ4 en4 => ⟨H04, m4, μ4, env4, rm4, s2.trans s34, en4, SatO.mono q3 fun o μ z => z.later s4⟩
        | ct env4 => exact fun σ4 en4 => ⟨H04, m4, μ4, env4, rm4, s2.trans s34, en4, SatO.mono q3 fun o μ z => z.later s4⟩
        | bk env4 => exact fun σ4 en4 => q3 H4 H04 m4 rm4 s4 σ4 en4
        | rt d4 => exact fun v r => q3 H4 H04 m4 rm4 s4 v r
        | ex x env4 => exact fun σ4 cls dd en4 ex => q3 H4 H04 m4 rm4 s4 σ4 cls dd en4 ex
    | false =>
      rw [if_neg Bool.false_ne_true] at q3 ⊢
      exact q3 H3 H03 m3 rm3 Step.refl σ2 en3⟩
end MI
/-! MIT: raise, try, except suites. -/
namespace MI
open PySem PySem.Spec PyProof.Rows L2
variable {Γ : Gam} {k : Nat} {N : List Str} {sc : Sco} {pos : Pos}

/-! ### an exception's fields -/
theorem repF_snoc {K : PySem.W.Frag} {H : Hp} : ∀ {fs : List (Str × T)} {vs : List (Str × V)} {f : Str} {t : T} {v : V}, repF K H fs vs → repT K H t v → repF K H (fs ++ [(f, t)]) (vs ++ [(f, v)])
  | [], _, f, t, v, h, r => by
    subst h
    exact ⟨v, [], rfl, r, rfl⟩
  | (g, u) :: fs, _, f, t, v, h, r => by
    obtain ⟨w, q, rfl, h1, h2⟩ := h
    exact ⟨w, q ++ [(f, v)], rfl, h1, repF_snoc h2 r⟩
theorem repF_zip {K : PySem.W.Frag} {H : Hp} : ∀ {fs : List Str} {ts : List T} {vs : List V}, repTs K H ts vs → repF K H (fs.zip ts).reverse (fs.zip vs).reverse
  | [], _, _, _ => rfl
  | f :: fs, [], vs, h => by
    simp only [repTs] at h
    subst h
    rfl
  | f :: fs, t :: ts, vs, h => by
    simp only [repTs] at h
    obtain ⟨v, r, rfl, h1, h2⟩ := h
    simp only [List.zip_cons_cons, List.reverse_cons]
    exact repF_snoc (repF_zip h2) h1
theorem repF_get {K : PySem.W.Frag} {H : Hp} : ∀ {fs : List (Str × T)} {vs : List (Str × V)} {f : Str} {t : T}, repF K H fs vs → lookF fs f = some t → ∃ v, vs.lookup f = some v ∧ repT K H t v
  | [], _, f, t, _, h => by simp [lookF] at h
  | (g, u) :: fs, _, f, t, h, e => by
    obtain ⟨v, q, rfl, h1, h2⟩ := h
    by_cases hg : g = f
    · subst hg
      have e' : u = t := by simpa [lookF] using e
      subst e'
      exact ⟨v, by simp [List.lookup], h1⟩
    · have e' : lookF fs f = some t := by simpa [lookF, hg] using e
      obtain ⟨v', h3, h4⟩ := repF_get h2 e'
      have hb : (f == g) = false := by simpa using fun z => hg z.symm
      exact ⟨v', by simp [List.lookup, hb, h3], h4⟩
theorem ExOk.mono {mg : Str → Option Value} {K : PySem.W.Frag} {H0 H0' : Hp} {x : Exn} {cls : Value} {dd : Option Addr} (s : Same H0 H0') (h : ExOk mg K H0 x cls dd) : ExOk mg K H0' x cls dd := by
  obtain ⟨C, h1, h2, h3⟩ := h
  refine ⟨C, h1, h2, ?_⟩
  rcases h3 with h3 | ⟨a, fvs, h4, h5, h6⟩
  · exact .inl h3
  · exact .inr ⟨a, fvs, h4, s _ _ h5, repF.mono s h6⟩

/-! ### raise -/
theorem Gd.rsvm {X : Cx} {W : WX} (g : Gd Γ k N sc X W) : Room 2 X.A := g.room.mono g.lev
theorem vs_rse {c : Str} {fs : List Str} {e0 : Expr} {xs : List Expr} {es : Es} {p p2 : Pos} (hc : (⟨c, fs, true⟩ : ClsI) ∈ Γ.cls) (hl : fs.length ≤ 9) (hg : giB (sc.names.lookup c) = true) (hd : (c == ("__debug__" : Str)) = false) (ha : VEs Γ k N sc (e0 :: xs) es) :
    VS Γ k N sc (.Raise (some (.Call (.Name c p) (e0 :: xs) [] p2)) none pos) (.rse c fs es) := ⟨fun X W g => by
  obtain ⟨ta, pa, aa⟩ := ha.run X W g
  obtain ⟨C, mgC, FC, hno, hini⟩ := g.cls _ hc
  rw [if_pos rfl] at hini
  obtain ⟨T, fI, fd, slf, hI, hT, hb, FI⟩ := hini
  have hp := ha.pl
  simp only [List.all_cons, Bool.and_eq_true] at hp
  have ps0 : Passes (L2N.CX X.prog X.w) X (fun _ _ _ => False) := L2N.passes_call g.tk.n (fun _ _ _ _ z => z.elim)
  refine ⟨_, L2N.ps_raise g.calm g.tk.n (pmk_new T hI hT FI g.rsvm hb ps0 (g.gl hg) mgC pa hd (starEach_pl hp.1) (starEach_any hp.2)), fun σ H env μ H0 m D rm en h => ?_⟩
  simp only [evS] at h
  show ta σ H _
  refine aa.lift rm en h fun ds μ1 vs H1 H01 m1 rm1 s1 r1 en1 h1 => ?_
  split at h1
  · rename_i ts et
    split at h1
    · rename_i hz
      have h1 : PostS X W D H1 H01 m1 (.ex ⟨c, (fs.zip ts).reverse⟩ env) μ1 := h1
      have et := toTs_map et
      have hlen : vs.length = fs.length := by rw [← reps_len r1, et, List.length_map, hz]
      refine ⟨by omega, fun a na => ⟨a, vs, by rw [List.append_nil], hlen, T, hno, upd_same, fun dx hn hne => ⟨rfl, dx, (fs.zip vs).reverse, upd_same, ?_, ?_, ?_⟩⟩⟩
      · rw [upd_ne hne, upd_same]
      · rw [upd_ne hne] at hn
        exact hn
      · have hn' : H1 dx = none := by
          rw [upd_ne hne] at hn
          exact hn
        have e : upd (del (upd (upd (upd H1 a (exo a C none)) dx (exd dx (fs.zip vs).reverse)) a (exo a C (some dx))) a) dx (.xd (fs.zip vs).reverse) = upd H1 dx (.xd (fs.zip vs).reverse) := by
          funext b
          by_cases h1 : b = dx
          · subst h1
            rw [upd_same, upd_same]
          · rw [upd_ne h1, upd_ne h1]
            by_cases h2 : b = a
            · subst h2
              rw [del_same, na]
            · rw [del_ne h2, upd_ne h2, upd_ne h1, upd_ne h2]
        rw [e]
        refine h1 _ (upd H01 dx (.xd (fs.zip vs).reverse)) m1 (rm1.newF hn') (Step.newF rm1.same hn') σ (.ref C) (some dx) (en1.step (Step.newF rm1.same hn')) ⟨C, mgC, rfl, .inr ⟨dx, _, rfl, upd_same, ?_⟩⟩
        refine repF.mono (Same.upd (rm1.same.free hn')) (repF_zip ?_)
        rw [repT_ts (m := m1), ← et]
        exact r1
    · exact h1.elim
  · exact h1.elim⟩
theorem vs_rsm {c m : Str} {j : Nat} {p p2 p3 : Pos} (hc : (⟨c, [], false⟩ : ClsI) ∈ Γ.cls) (hg : giB (sc.names.lookup c) = true) (hd : (c == ("__debug__" : Str)) = false) :
    VS Γ k N sc (.Raise (some (.Call (.Name c p) [.Constant (.str m) j p3] [] p2)) none pos) (.rsm c m) := ⟨fun X W g => by
  obtain ⟨C, mgC, FC, hno, hini⟩ := g.cls _ hc
  rw [if_neg (show ¬ (false = true) by decide)] at hini
  obtain ⟨q, kC, tC⟩ := hini
  refine ⟨_, L2N.ps_raise g.calm g.tk.n (L2N.pmk_own PySem.F.excBase_ValueError q mgC kC (raises_own FC.ex tC) (g.gl hg) hd), fun σ H env μ H0 m D rm en h => ?_⟩
  simp only [evS, outO] at h
  exact h H H0 m rm Step.refl σ (.ref C) none en ⟨C, mgC, rfl, .inl ⟨rfl, rfl⟩⟩⟩

/-! ### except suites -/
/-- what is known in the suite: the slot of the exception's name, and the exception -/
def PX (X : Cx) (a : Addr) (cls : Value) (d : Option Addr) (i : Option Nat) (x : Exn) (σ : L2.St) (H0 : Hp) : Prop := (∀ j, i = some j → σ[j]? = some (some (.ref a))) ∧ ExOk X.mg X.K H0 x cls d
theorem PX.step {X : Cx} {a : Addr} {cls : Value} {d : Option Addr} {i : Option Nat} {x : Exn} {σ : L2.St} {H0 H0' : Hp} (s : Same H0 H0') (h : PX X a cls d i x σ H0) : PX X a cls d i x σ H0' := ⟨h.1, h.2.mono s⟩
def AnsP {α β : Type} (ρ : PySem.W.Frag → Hp → List Addr → α → β → Prop) (X : Cx) (a : Addr) (cls : Value) (d : Option Addr) (i : Option Nat) (t : L2.St → Hp → (β → Hp → Prop) → Prop) (c : Exn → Envv → M α) : Prop :=
  ∀ x σ H env μ H0 m Q, RelM X.K H H0 m μ → EnvOk X.K H0 m env σ → PX X a cls d i x σ H0 →
    Sat (c x env μ) (fun u μ' => ∀ b H' H0' m', RelM X.K H' H0' m' μ' → Step H H0 m H' H0' m' → ρ X.K H0' m' u b → Q b H') (fun _ _ => False) → t σ H Q
section
variable {X : Cx} {W : WX} {a : Addr} {oe : Obj} {cls : Value} {dd : Option Addr} {pn : List (Addr × Obj)} {i : Option Nat}
theorem AnsP.bnd {α β γ : Type} {ρ : PySem.W.Frag → Hp → List Addr → α → β → Prop} {t : L2.St → Hp → (β → Hp → Prop) → Prop} {c : Exn → Envv → M α} (ha : AnsP ρ X a cls dd i t c) {x : Exn} {σ : L2.St} {H H0 : Hp} {env : Envv} {μ : Mem} {m : List Addr} {f : α → M γ} {P : γ → Mem → Prop} {R : β → Hp → Prop}
    (rm : RelM X.K H H0 m μ) (en : EnvOk X.K H0 m env σ) (px : PX X a cls dd i x σ H0) (h : Sat (MI.bnd (c x env) f μ) P (fun _ _ => False))
    (k : ∀ u μ1 v H1 H01 m1, RelM X.K H1 H01 m1 μ1 → Step H H0 m H1 H01 m1 → ρ X.K H01 m1 u v → EnvOk X.K H01 m1 env σ → PX X a cls dd i x σ H01 → Sat (f u μ1) P (fun _ _ => False) → R v H1) : t σ H R := by
  refine ha x σ H env μ H0 m R rm en px (Sat.mono (Sat.bnd h) (fun u μ1 q => ?_) fun _ _ q => q)
  intro v H1 H01 m1 rm1 s1 r1
  exact k u μ1 v H1 H01 m1 rm1 s1 r1 (en.step s1) (px.step s1.same) q
/-- an expression of the suite, as a value and as a test -/
structure HEk (X : Cx) (a : Addr) (oe : Obj) (cls : Value) (dd : Option Addr) (pn : List (Addr × Obj)) (i : Option Nat) (x : Expr) (e : HE) : Prop where
  val : ∃ t, PE (X.suite a ((a, oe) :: pn)) x t ∧ AnsP rep X a cls dd i t (fun y => evH y e)
  tst : ∃ t, PT (X.suite a ((a, oe) :: pn)) x t ∧ AnsP eqR X a cls dd i t (fun y env => MI.bnd (evH y e env) toB)
theorem testP {t : TE} {c : Exn → Envv → M D} (h : AnsP rep X a cls dd i t c) : AnsP eqR X a cls dd i (tTest t) (fun y env => MI.bnd (c y env) toB) := fun x σ H env μ H0 m Q rm en px hs => by
  show t σ H _
  refine h.bnd rm en px hs fun d μ1 v H1 H01 m1 rm1 s1 r1 en1 px1 h1 => ?_
  obtain ⟨b, rfl, q⟩ := toB_some h1
  exact ⟨b, rep_bl.mp r1, q b H1 H01 m1 rm1 s1 rfl⟩
theorem he_val {x : Expr} {e : HE} (hv : valX x = true) (h : ∃ t, PE (X.suite a ((a, oe) :: pn)) x t ∧ AnsP rep X a cls dd i t (fun y => evH y e)) : HEk X a oe cls dd pn i x e :=
  ⟨h, let ⟨_, h1, h2⟩ := h; ⟨_, pt_val h1 (isTrue_val hv), testP h2⟩⟩
theorem he_var (g : Gd Γ k N sc X W) {j : Nat} {y : Str} (h1 : N[j]? = some y) (h2 : visB (sc.names.lookup y) = true) (h3 : (y == ("__debug__" : Str)) = false) (h4 : (y == ("__classdict__" : Str)) = false) : HEk X a oe cls dd pn i (.Name y pos) (.var j) :=
  he_val rfl ⟨_, pe_var (X := X.suite a ((a, oe) :: pn)) (i := j) (by rw [← g.hN] at h1; exact h1) (g.vis h2) h3 h4, fun x σ H env μ H0 m Q rm en px h => by
    simp only [evH] at h
    split at h
    · rename_i d e
      obtain ⟨v, e1, r1⟩ := en.get j d e
      exact ⟨v, e1, h v H H0 m rm Step.refl r1⟩
    · exact h.elim⟩
theorem he_cst {c : Const} {t : T} {j : Nat} (hc : cstB c t = true) : HEk X a oe cls dd pn i (.Constant c j pos) (.cst t) := by
  unfold cstB at hc
  refine he_val rfl ?_
  split at hc
  · exact ⟨_, pe_non, fun x σ H env μ H0 m Q rm en px h => h .non H H0 m rm Step.refl (rep_non.mpr rfl)⟩
  · rename_i b1 b2
    obtain rfl : b1 = b2 := by simpa using hc
    exact ⟨_, pe_bl, fun x σ H env μ H0 m Q rm en px h => h (.bl b1) H H0 m rm Step.refl (rep_bl.mpr rfl)⟩
  · rename_i b1 b2
    obtain rfl : b1 = b2 := by simpa using hc
    exact ⟨_, pe_int, fun x σ H env μ H0 m Q rm en px h => h (.int b1) H H0 m rm Step.refl (rep_int.mpr rfl)⟩
  · rename_i b1 b2
    obtain rfl : b1 = b2 := by simpa using hc
    exact ⟨_, pe_str, fun x σ H env μ H0 m Q rm en px h => h (.str b1) H H0 m rm Step.refl (rep_str.mpr rfl)⟩
  · cases hc
/-- e.f -/
theorem he_fld (g : Gd Γ k N sc X W) {n f : Str} {j : Nat} {cs : List Str} {np : Pos} (hz : Zc cls dd oe) (hf : ∃ vs, oe.data = .fields vs) (hi : i = some j) (h1 : N[j]? = some n) (h2 : visB (sc.names.lookup n) = true) (h3 : (n == ("__debug__" : Str)) = false) (h4 : (n == ("__classdict__" : Str)) = false)
    (hcs : ∀ c ∈ cs, ∃ ci ∈ Γ.cls, ci.nm = c ∧ f ∈ ci.fs) : HEk X a oe cls dd pn i (.Attribute (.Name n np) f pos) (.fld f cs) := by
  refine he_val rfl ?_
  by_cases hc : ∃ c ∈ cs, ∃ C, X.mg c = some (.ref C) ∧ cls = .ref C
  · obtain ⟨c, hcm, C, mgC, rfl⟩ := hc
    obtain ⟨ci, hci, rfl, hfm⟩ := hcs c hcm
    obtain ⟨C', mgC', FC, hno, _⟩ := g.cls _ hci
    rw [mgC] at mgC'
    cases mgC'
    refine ⟨_, pe_xf (C := C) ⟨FC.ga, FC.gg, FC.ex, FC.hd⟩ (hno f hfm) hz hf (pe_var (X := X.suite a ((a, oe) :: pn)) (i := j) (by rw [← g.hN] at h1; exact h1) (g.vis h2) h3 h4), fun x σ H env μ H0 m Q rm en px h => ?_⟩
    simp only [evH] at h
    split at h
    · split at h
      · rename_i t ht
        obtain ⟨C2, e1, e2, e3⟩ := px.2
        refine ⟨.ref a, px.1 j hi, rfl, rfl, ?_⟩
        rcases e3 with ⟨e3, _⟩ | ⟨d, fvs, rfl, e5, e6⟩
        · rw [e3] at ht
          simp [lookF] at ht
        · obtain ⟨v, l1, l2⟩ := repF_get e6 ht
          exact ⟨d, fvs, v, rfl, rm.same _ _ e5, l1, h v H H0 m rm Step.refl (by simp only [rep]; exact l2)⟩
      · exact h.elim
    · exact h.elim
  · refine ⟨fun _ _ _ => False, ⟨fun pins s σ H Q I z => z.elim⟩, fun x σ H env μ H0 m Q rm en px h => ?_⟩
    simp only [evH] at h
    split at h
    · rename_i hxc
      obtain ⟨C, e1, e2, _⟩ := px.2
      exact hc ⟨x.cls, hxc, C, e1, e2⟩
    · exact h.elim
/-- isinstance(e, c) -/
theorem he_isi (g : Gd Γ k N sc X W) {n c : Str} {j : Nat} {tab : List (Str × Bool)} {np cp ip : Pos} (hz : Zc cls dd oe) (hf : ∃ vs, oe.data = .fields vs) (hi : i = some j) (h1 : N[j]? = some n) (h2 : visB (sc.names.lookup n) = true) (h3 : (n == ("__debug__" : Str)) = false) (h4 : (n == ("__classdict__" : Str)) = false)
    (hb : ("isinstance" : Str) ∈ Γ.blts) (hg : giB (sc.names.lookup ("isinstance" : Str)) = true) (hg2 : giB (sc.names.lookup c) = true) (hd : (c == ("__debug__" : Str)) = false) (ht : ∀ p ∈ tab, (p.1, c, p.2) ∈ Γ.sub) : HEk X a oe cls dd pn i (.Call (.Name "isinstance" ip) [.Name n np, .Name c cp] [] pos) (.isi c tab) := by
  refine he_val rfl ?_
  by_cases hc : ∃ p ∈ tab, ∃ C, X.mg p.1 = some (.ref C) ∧ cls = .ref C
  · obtain ⟨p, hp, C, mgC, rfl⟩ := hc
    obtain ⟨C', U, mgC', FC, nv, _, _⟩ := g.sub _ _ _ (ht p hp)
    rw [mgC] at mgC'
    cases mgC'
    have hm := g.blt _ hb
    have pv := pe_var (X := X.suite a ((a, oe) :: pn)) (i := j) (pos := np) (by rw [← g.hN] at h1; exact h1) (g.vis h2) h3 h4
    obtain ⟨cv, pc, rc⟩ : ∃ cv : V, PE (X.suite a ((a, oe) :: pn)) (.Name c cp) (fun _ H Q => Q cv H) ∧ ∀ u, RelV cv u → u = U := by
      rcases nv with ⟨hmc, C2, rfl⟩ | ⟨hmn, hbt, hnn, ty, rfl⟩
      · exact ⟨.ref C2, pe_glob (X := X.suite a ((a, oe) :: pn)) (g.gl hg2) hmc rfl hd, fun u r => r⟩
      · exact ⟨.ty ty, pe_bltn (g.gl hg2) hmn hbt rfl hnn hd, fun u r => r⟩
    refine ⟨_, pe_callB (call_isX FC hz hf) (g.gl hg) hm PyProof.Rows.boot_isinstance (pa_cons pv (pa_cons pc pa_nil (starEach_pl rfl)) (starEach_pl rfl)) (by decide) (by decide) (starEach_pl rfl) (starEach_any rfl), fun x σ H env μ H0 m Q rm en px h => ?_⟩
    simp only [evH] at h
    split at h
    · rename_i b hlt
      obtain ⟨C2, e1, e2, e3⟩ := px.2
      cases e2
      have hmem : (x.cls, b) ∈ tab := by
        unfold lookT at hlt
        obtain ⟨q, hq, hqe⟩ := Option.map_eq_some_iff.mp hlt
        have h5 := List.find?_some hq
        have h6 := List.mem_of_find?_eq_some hq
        simp only [decide_eq_true_eq] at h5
        obtain ⟨q1, q2⟩ := q
        simp only at h5 hqe
        subst h5 hqe
        exact h6
      obtain ⟨C3, U3, m3, _, nv3, _, kk⟩ := g.sub _ _ _ (ht _ hmem)
      rw [e1] at m3
      cases m3
      have hV : U3 = U := by
        rcases nv with ⟨n1, _⟩ | ⟨n1, n2, _⟩ <;> rcases nv3 with ⟨n3, _⟩ | ⟨n3, n4, _⟩
        · rw [n1] at n3; exact (Option.some.inj n3).symm
        · rw [n1] at n3; cases n3
        · rw [n1] at n3; cases n3
        · rw [n2] at n4; exact (Option.some.inj n4).symm
      subst hV
      refine ⟨.ref a, px.1 j hi, cv, U3, b, rfl, rc, kk, fun d hd' => ?_, h (.bl b) H H0 m rm Step.refl (rep_bl.mpr rfl)⟩
      subst hd'
      rcases e3 with ⟨_, e3⟩ | ⟨d2, fvs, e4, e5, e6⟩
      · cases e3
      · cases e4
        exact ⟨fvs, rm.same _ _ e5⟩
    · exact h.elim
  · refine ⟨fun _ _ _ => False, ⟨fun pins s σ H Q I z => z.elim⟩, fun x σ H env μ H0 m Q rm en px h => ?_⟩
    simp only [evH] at h
    split at h
    · rename_i b hlt
      obtain ⟨C, e1, e2, _⟩ := px.2
      unfold lookT at hlt
      obtain ⟨q, hq, hqe⟩ := Option.map_eq_some_iff.mp hlt
      have h5 := List.find?_some hq
      have h6 := List.mem_of_find?_eq_some hq
      simp only [decide_eq_true_eq] at h5
      exact hc ⟨q, h6, C, by rw [h5]; exact e1, e2⟩
    · exact h.elim
theorem he_cmp (g : Gd Γ k N sc X W) {x y : Expr} {e f : HE} {op : Cop} (h1 : HEk X a oe cls dd pn i x e) (h2 : HEk X a oe cls dd pn i y f) (hm : plX y = true) : HEk X a oe cls dd pn i (.Compare x [copOf op] [y] pos) (.cmp op e f) := by
  obtain ⟨ta, pa, aa⟩ := h1.val
  obtain ⟨tb, pb, ab⟩ := h2.val
  obtain ⟨r, ho, hr⟩ := opA_cmp (X := X.suite a ((a, oe) :: pn)) (show X.A.units + 64 < cLine from g.hu) op
  have key : AnsP rep X a cls dd i (fun σ H Q => ta σ H fun v H1 => tb σ H1 fun w H2 => r v w H2 Q) (fun y' => evH y' (.cmp op e f)) := fun x' σ H env μ H0 m Q rm en px h => by
    simp only [evH] at h
    refine aa.bnd rm en px h fun d μ1 v H1 H01 m1 rm1 s1 r1 en1 px1 h1 => ?_
    refine ab.bnd rm1 en1 px1 h1 fun e' μ2 w H2 H02 m2 rm2 s2 r2 en2 px2 h2 => ?_
    exact hr d e' v w H2 H02 m2 μ2 Q _ _ rm2 (r1.step s2) r2 h2 fun u μ3 q => PostE.later (Q := Q) q (s1.trans s2)
  exact ⟨⟨_, pe_cmpR ho pa pb (nomarkX hm), key⟩, ⟨_, pt_cmpR ho pa pb (nomarkX hm), testP key⟩⟩
theorem he_not {x : Expr} {e : HE} (h : HEk X a oe cls dd pn i x e) : HEk X a oe cls dd pn i (.UnaryOp .Not x pos) (.not e) := by
  obtain ⟨ta, pa, aa⟩ := h.val
  obtain ⟨tb, pb, ab⟩ := h.tst
  refine ⟨⟨_, pe_not pa, fun y σ H env μ H0 m Q rm en px h => ?_⟩, ⟨_, pt_not pb, fun y σ H env μ H0 m Q rm en px h => ?_⟩⟩
  · simp only [evH] at h
    refine aa.bnd rm en px h fun d μ1 v H1 H01 m1 rm1 s1 r1 en1 px1 h1 => ?_
    obtain ⟨c, rfl, h2⟩ := toB_some (Sat.bnd h1)
    exact ⟨c, rep_bl.mp r1, h2 _ _ _ _ rm1 s1 (rep_bl.mpr rfl)⟩
  · simp only [evH] at h
    rw [bnd_assoc] at h
    simp only [bnd_assoc, bnd_pur, toB_bl] at h
    rw [← bnd_assoc] at h
    refine ab.bnd rm en px h fun d μ1 v H1 H01 m1 rm1 s1 r1 en1 px1 h1 => ?_
    cases r1
    exact h1 _ _ _ _ rm1 s1 rfl
theorem laterE {Q : VK} {H H0 H1 H01 : Hp} {m m1 : List Addr} {K : PySem.W.Frag} {r : R D} (s : Step H H0 m H1 H01 m1) (h : Sat r (PostE K Q H H0 m) (fun _ _ => False)) : Sat r (PostE K Q H1 H01 m1) (fun _ _ => False) := h.mono (fun _ _ q => PostE.later (Q := Q) q s) fun _ _ z => z
/-- a tail of a chain of and, or -/
structure HEw (X : Cx) (a : Addr) (oe : Obj) (cls : Value) (dd : Option Addr) (pn : List (Addr × Obj)) (i : Option Nat) (x : Expr) (e : HE) : Prop where
  val : ∃ t, PE (X.suite a ((a, oe) :: pn)) x t ∧ AnsP rep X a cls dd i t (fun y => evH y e)
  tst : ∃ t, PW (X.suite a ((a, oe) :: pn)) x t ∧ AnsP eqR X a cls dd i t (fun y env => MI.bnd (evH y e env) toB)
theorem HEw.hek {x : Expr} {e : HE} (h : HEw X a oe cls dd pn i x e) : HEk X a oe cls dd pn i x e := ⟨h.val, let ⟨t, h1, h2⟩ := h.tst; ⟨t, h1.pt, h2⟩⟩
theorem hew_and1 {x : Expr} {e : HE} (h : HEk X a oe cls dd pn i x e) : HEw X a oe cls dd pn i (.BoolOp .And [x] pos) e := ⟨let ⟨t, h1, h2⟩ := h.val; ⟨t, pe_one h1, h2⟩, let ⟨t, h1, h2⟩ := h.tst; ⟨t, pw_and1 h1, h2⟩⟩
theorem hew_or1 {x : Expr} {e : HE} (h : HEk X a oe cls dd pn i x e) : HEw X a oe cls dd pn i (.BoolOp .Or [x] pos) e := ⟨let ⟨t, h1, h2⟩ := h.val; ⟨t, pe_one h1, h2⟩, let ⟨t, h1, h2⟩ := h.tst; ⟨t, pw_or1 h1, h2⟩⟩
theorem hew_and {x y : Expr} {rest : List Expr} {e f : HE} (h1 : HEk X a oe cls dd pn i x e) (h2 : HEw X a oe cls dd pn i (.BoolOp .And (y :: rest) pos) f) : HEw X a oe cls dd pn i (.BoolOp .And (x :: y :: rest) pos) (.and e f) := by
  obtain ⟨ta, pa, aa⟩ := h1.val
  obtain ⟨tb, pb, ab⟩ := h2.val
  obtain ⟨qa, wa, ba⟩ := h1.tst
  obtain ⟨qb, wb, bb⟩ := h2.tst
  refine ⟨⟨_, pe_and pa pb, fun y σ H env μ H0 m Q rm en px h => ?_⟩, ⟨_, pw_and wa wb, fun y σ H env μ H0 m Q rm en px h => ?_⟩⟩
  · simp only [evH] at h
    refine aa.bnd rm en px h fun d μ1 v H1 H01 m1 rm1 s1 r1 en1 px1 h1 => ?_
    obtain ⟨c, rfl, h2⟩ := toB_some (Sat.bnd h1)
    refine ⟨c, rep_bl.mp r1, ?_⟩
    cases c with
    | true =>
      rw [if_pos rfl] at h2 ⊢
      exact ab y σ H1 env μ1 H01 m1 Q rm1 en1 px1 (laterE s1 h2)
    | false =>
      rw [if_neg Bool.false_ne_true] at h2 ⊢
      exact h2 _ _ _ _ rm1 s1 (rep_bl.mpr rfl)
  · simp only [evH] at h
    rw [bnd_assoc] at h
    simp only [bnd_assoc, bnd_ite, bnd_pur, toB_bl] at h
    rw [← bnd_assoc] at h
    refine ba.bnd rm en px h fun d μ1 v H1 H01 m1 rm1 s1 r1 en1 px1 h1 => ?_
    cases r1
    cases d with
    | true =>
      rw [if_pos rfl] at h1 ⊢
      exact bb y σ H1 env μ1 H01 m1 Q rm1 en1 px1 (h1.mono (fun x μ2 q b H' H0' m' r s e => q b H' H0' m' r (s1.trans s) e) fun _ _ z => z)
    | false =>
      rw [if_neg Bool.false_ne_true] at h1 ⊢
      exact h1 _ _ _ _ rm1 s1 rfl
theorem hew_or {x y : Expr} {rest : List Expr} {e f : HE} (h1 : HEk X a oe cls dd pn i x e) (h2 : HEw X a oe cls dd pn i (.BoolOp .Or (y :: rest) pos) f) : HEw X a oe cls dd pn i (.BoolOp .Or (x :: y :: rest) pos) (.or e f) := by
  obtain ⟨ta, pa, aa⟩ := h1.val
  obtain ⟨tb, pb, ab⟩ := h2.val
  obtain ⟨qa, wa, ba⟩ := h1.tst
  obtain ⟨qb, wb, bb⟩ := h2.tst
  refine ⟨⟨_, pe_or pa pb, fun y σ H env μ H0 m Q rm en px h => ?_⟩, ⟨_, pw_or wa wb, fun y σ H env μ H0 m Q rm en px h => ?_⟩⟩
  · simp only [evH] at h
    refine aa.bnd rm en px h fun d μ1 v H1 H01 m1 rm1 s1 r1 en1 px1 h1 => ?_
    obtain ⟨c, rfl, h2⟩ := toB_some (Sat.bnd h1)
    refine ⟨c, rep_bl.mp r1, ?_⟩
    cases c with
    | true =>
      rw [if_pos rfl] at h2 ⊢
      exact h2 _ _ _ _ rm1 s1 (rep_bl.mpr rfl)
    | false =>
      rw [if_neg Bool.false_ne_true] at h2 ⊢
      exact ab y σ H1 env μ1 H01 m1 Q rm1 en1 px1 (laterE s1 h2)
  · simp only [evH] at h
    rw [bnd_assoc] at h
    simp only [bnd_assoc, bnd_ite, bnd_pur, toB_bl] at h
    rw [← bnd_assoc] at h
    refine ba.bnd rm en px h fun d μ1 v H1 H01 m1 rm1 s1 r1 en1 px1 h1 => ?_
    cases r1
    cases d with
    | true =>
      rw [if_pos rfl] at h1 ⊢
      exact h1 _ _ _ _ rm1 s1 rfl
    | false =>
      rw [if_neg Bool.false_ne_true] at h1 ⊢
      exact bb y σ H1 env μ1 H01 m1 Q rm1 en1 px1 (h1.mono (fun x μ2 q b H' H0' m' r s e => q b H' H0' m' r (s1.trans s) e) fun _ _ z => z)
theorem he_and {x y : Expr} {e f : HE} (h1 : HEk X a oe cls dd pn i x e) (h2 : HEk X a oe cls dd pn i y f) : HEk X a oe cls dd pn i (.BoolOp .And [x, y] pos) (.and e f) := (hew_and h1 (hew_and1 h2)).hek
theorem he_or {x y : Expr} {e f : HE} (h1 : HEk X a oe cls dd pn i x e) (h2 : HEk X a oe cls dd pn i y f) : HEk X a oe cls dd pn i (.BoolOp .Or [x, y] pos) (.or e f) := (hew_or h1 (hew_or1 h2)).hek
theorem evH_or3 (x : Exn) (e f g : HE) (env : Envv) : evH x (.or3 e f g) env = evH x (.or e (.or f g)) env := by simp only [evH]
theorem he_or3 {x y z : Expr} {e f g : HE} (h1 : HEk X a oe cls dd pn i x e) (h2 : HEk X a oe cls dd pn i y f) (h3 : HEk X a oe cls dd pn i z g) : HEk X a oe cls dd pn i (.BoolOp .Or [x, y, z] pos) (.or3 e f g) := by
  have h := (hew_or h1 (hew_or h2 (hew_or1 (pos := pos) h3))).hek
  have e1 : (fun y => evH y (.or3 e f g)) = fun y => evH y (.or e (.or f g)) := by
    funext y env
    exact evH_or3 y e f g env
  have e2 : (fun (y : Exn) (env : Envv) => MI.bnd (evH y (.or3 e f g) env) toB) = fun y env => MI.bnd (evH y (.or e (.or f g)) env) toB := by
    funext y env
    rw [evH_or3]
  exact ⟨by rw [e1]; exact h.val, by rw [e2]; exact h.tst⟩
structure HEsk (X : Cx) (a : Addr) (oe : Obj) (cls : Value) (dd : Option Addr) (pn : List (Addr × Obj)) (i : Option Nat) (xs : List Expr) (es : HEs) : Prop where
  run : ∃ t, PA (X.suite a ((a, oe) :: pn)) xs t ∧ AnsP reps X a cls dd i t (fun y => evHs y es)
theorem hes_nil : HEsk X a oe cls dd pn i [] .nil := ⟨_, pa_nil, fun x σ H env μ H0 m Q rm en px h => by
  simp only [evHs] at h
  exact h [] H H0 m rm Step.refl (by simp only [reps])⟩
theorem hes_cons {x : Expr} {xs : List Expr} {e : HE} {es : HEs} (hp : plX x = true) (h1 : HEk X a oe cls dd pn i x e) (h2 : HEsk X a oe cls dd pn i xs es) : HEsk X a oe cls dd pn i (x :: xs) (.cons e es) := by
  obtain ⟨ta, pa, aa⟩ := h1.val
  obtain ⟨tr, pr, ar⟩ := h2.run
  refine ⟨_, pa_cons pa pr (starEach_pl hp), fun y σ H env μ H0 m Q rm en px h => ?_⟩
  simp only [evHs] at h
  refine aa.bnd rm en px h fun d μ1 v H1 H01 m1 rm1 s1 r1 en1 px1 h1 => ?_
  refine ar.bnd rm1 en1 px1 h1 fun ds μ2 vs H2 H02 m2 rm2 s2 r2 en2 px2 h2 => ?_
  exact h2 (v :: vs) H2 H02 m2 rm2 (s1.trans s2) (by simp only [reps]; exact ⟨v, vs, rfl, r1.step s2, r2⟩)
theorem he_tup {xs : List Expr} {es : HEs} {j : Nat} (h : HEsk X a oe cls dd pn i xs es) : HEk X a oe cls dd pn i (.Tuple xs j pos) (.tup es) := by
  obtain ⟨t, pa, aa⟩ := h.run
  refine he_val rfl ⟨_, pe_tup pa, fun y σ H env μ H0 m Q rm en px h => ?_⟩
  simp only [evH] at h
  refine aa.bnd rm en px h fun ds μ1 vs H1 H01 m1 rm1 s1 r1 en1 px1 h1 => ?_
  obtain ⟨h2, h3⟩ := mkTup_ok (Q := Q) rm1 r1 h1 fun x μ3 q => PostE.later (Q := Q) q s1
  exact ⟨by rw [← reps_len r1]; exact h2, h3⟩
theorem he_lst {xs : List Expr} {es : HEs} (h : HEsk X a oe cls dd pn i xs es) : HEk X a oe cls dd pn i (.List xs pos) (.lst es) := by
  obtain ⟨t, pa, aa⟩ := h.run
  refine he_val rfl ⟨_, pe_lst pa, fun y σ H env μ H0 m Q rm en px h => ?_⟩
  simp only [evH] at h
  refine aa.bnd rm en px h fun ds μ1 vs H1 H01 m1 rm1 s1 r1 en1 px1 h1 => ?_
  obtain ⟨h2, h3⟩ := mkL_ok (Q := Q) rm1 r1 h1 fun x μ3 q => PostE.later (Q := Q) q s1
  exact ⟨by rw [← reps_len r1]; exact h2, h3⟩

/-! ### the suite's statements -/
def PostH (X : Cx) (D : Ends) (a : Addr) (i : Option Nat) (H H0 : Hp) (m : List Addr) : Out → Mem → Prop := fun o μ' => ∀ H' H0' m', RelM X.K H' H0' m' μ' → Step H H0 m H' H0' m' → match o with
  | .nx env' => ∀ σ', EnvOk X.K H0' m' env' σ' → (∀ j, i = some j → σ'[j]? = some (some (.ref a))) → D.nx σ' H'
  | .rt d => ∀ v, rep X.K H0' m' d v → D.rt v H'
  | _ => True
theorem PostH.later {D : Ends} {H H0 H1 H01 : Hp} {m m1 : List Addr} {o : Out} {μ : Mem} (h : PostH X D a i H H0 m o μ) (s : Step H H0 m H1 H01 m1) : PostH X D a i H1 H01 m1 o μ := fun H' H0' m' r s' => h H' H0' m' r (s.trans s')
def AnsHS (X : Cx) (a : Addr) (cls : Value) (dd : Option Addr) (i : Option Nat) (t : TS) (c : Exn → Envv → MO) : Prop := ∀ x σ H env μ H0 m (D : Ends), RelM X.K H H0 m μ → EnvOk X.K H0 m env σ → PX X a cls dd i x σ H0 → SatO (c x env μ) (PostH X D a i H H0 m) → t D σ H
structure HSk (X : Cx) (a : Addr) (oe : Obj) (cls : Value) (dd : Option Addr) (pn : List (Addr × Obj)) (i : Option Nat) (x : Stmt) (s : HS) : Prop where
  run : ∃ t, PS (X.suite a ((a, oe) :: pn)) x t ∧ AnsHS X a cls dd i t (fun y => evHS y s)
structure HSsk (X : Cx) (a : Addr) (oe : Obj) (cls : Value) (dd : Option Addr) (pn : List (Addr × Obj)) (i : Option Nat) (xs : List Stmt) (ss : HSs) : Prop where
  run : ∃ t, PSs (X.suite a ((a, oe) :: pn)) xs t ∧ AnsHS X a cls dd i t (fun y => evHSs y ss)
theorem SatO.liftH {α : Type} {x : M α} {f : α → MO} {μ : Mem} {P : Out → Mem → Prop} (h : SatO (MI.liftH x f μ) P) : Sat (x μ) (fun a μ' => SatO (f a μ') P) (fun _ _ => False) := by
  unfold MI.liftH at h
  cases e : x μ with
  | ok a μ' => rw [e] at h; exact h
  | ex y μ' => rw [e] at h; exact h
  | no => rw [e] at h; exact h
theorem AnsP.lift {α β : Type} {ρ : PySem.W.Frag → Hp → List Addr → α → β → Prop} {t : L2.St → Hp → (β → Hp → Prop) → Prop} {c : Exn → Envv → M α} (ha : AnsP ρ X a cls dd i t c) {x : Exn} {σ : L2.St} {H H0 : Hp} {env : Envv} {μ : Mem} {m : List Addr} {f : α → MO} {D : Ends} {R : β → Hp → Prop}
    (rm : RelM X.K H H0 m μ) (en : EnvOk X.K H0 m env σ) (px : PX X a cls dd i x σ H0) (h : SatO (MI.liftH (c x env) f μ) (PostH X D a i H H0 m))
    (k : ∀ d μ1 v H1 H01 m1, RelM X.K H1 H01 m1 μ1 → Step H H0 m H1 H01 m1 → ρ X.K H01 m1 d v → EnvOk X.K H01 m1 env σ → PX X a cls dd i x σ H01 → SatO (f d μ1) (PostH X D a i H1 H01 m1) → R v H1) : t σ H R := by
  refine ha x σ H env μ H0 m R rm en px (Sat.mono (SatO.liftH h) (fun d μ1 q => ?_) fun _ _ z => z)
  intro v H1 H01 m1 rm1 s1 r1
  exact k d μ1 v H1 H01 m1 rm1 s1 r1 (en.step s1) (px.step s1.same) (q.mono fun o μ2 z => z.later s1)
theorem hs_ret {x : Expr} {e : HE} (h : HEk X a oe cls dd pn i x e) : HSk X a oe cls dd pn i (.Return (some x) pos) (.ret e) := by
  obtain ⟨t, p, aa⟩ := h.val
  refine ⟨_, ps_ret p, fun y σ H env μ H0 m D rm en px h => ?_⟩
  simp only [evHS] at h
  refine aa.lift rm en px h fun d μ1 v H1 H01 m1 rm1 s1 r1 en1 px1 h1 => ?_
  exact h1 H1 H01 m1 rm1 Step.refl v r1
theorem hs_unk {x : Stmt} : HSk X a oe cls dd pn i x .unk := ⟨fun _ _ _ => False, ⟨fun pins s σ H D I z => z.elim⟩, fun y σ H env μ H0 m D rm en px h => by
  simp only [evHS] at h
  exact h.elim⟩
theorem hs_pss : HSk X a oe cls dd pn i (.Pass pos) .pss := ⟨_, ps_pass, fun y σ H env μ H0 m D rm en px h => by
  simp only [evHS, outO] at h
  exact h H H0 m rm Step.refl σ en px.1⟩
theorem hs_asg (g : Gd Γ k N sc X W) {x : Expr} {j : Nat} {nm : Str} {e : HE} {p : Pos} (hp : plX x = true) (hl : notLc x = true) (h1 : N[j]? = some nm) (h2 : locS sc nm = true) (hji : i ≠ some j) (h : HEk X a oe cls dd pn i x e) : HSk X a oe cls dd pn i (.Assign [.Name nm p] x pos) (.asg j e) := by
  obtain ⟨t, pe, aa⟩ := h.val
  obtain ⟨l1, l2⟩ := g.loc h2
  refine ⟨_, ps_set (X := X.suite a ((a, oe) :: pn)) (i := j) (show X.N.Nodup from by rw [g.hN]; exact g.nd) (show X.N[j]? = some nm from by rw [g.hN]; exact h1) l1 pe (swaps_pl hp hl) l2, fun y σ H env μ H0 m D rm en px h => ?_⟩
  simp only [evHS] at h
  refine aa.lift rm en px h fun d μ1 v H1 H01 m1 rm1 s1 r1 en1 px1 h1 => ?_
  refine h1 H1 H01 m1 rm1 Step.refl _ (en1.set r1) fun j' hj => ?_
  rw [List.getElem?_set_ne (fun z => hji (by rw [hj, z]))]
  exact px1.1 j' hj
theorem hs_if {x : Expr} {e : HE} {xa xb : List Stmt} {sa sb : HSs} (h : HEk X a oe cls dd pn i x e) (h1 : HSsk X a oe cls dd pn i xa sa) (h2 : HSsk X a oe cls dd pn i xb sb) : HSk X a oe cls dd pn i (.If x xa xb pos) (.ife e sa sb) := by
  obtain ⟨tc, pc, ac⟩ := h.tst
  obtain ⟨ta, pa, aa⟩ := h1.run
  obtain ⟨tb, pb, ab⟩ := h2.run
  refine ⟨_, ps_if pc pa pb, fun y σ H env μ H0 m D rm en px h => ?_⟩
  simp only [evHS] at h
  refine ac.lift rm en px h fun d μ1 v H1 H01 m1 rm1 s1 r1 en1 px1 h1 => ?_
  cases r1
  cases d with
  | true =>
    rw [if_pos rfl] at h1 ⊢
    exact aa y σ H1 env μ1 H01 m1 D rm1 en1 px1 h1
  | false =>
    rw [if_neg Bool.false_ne_true] at h1 ⊢
    exact ab y σ H1 env μ1 H01 m1 D rm1 en1 px1 h1
theorem hss_nil : HSsk X a oe cls dd pn i [] .nil := ⟨_, pss_nil, fun y σ H env μ H0 m D rm en px h => by
  simp only [evHSs, outO] at h
  exact h H H0 m rm Step.refl σ en px.1⟩
theorem hss_cons {x : Stmt} {xs : List Stmt} {s : HS} {ss : HSs} (h1 : HSk X a oe cls dd pn i x s) (h2 : HSsk X a oe cls dd pn i xs ss) : HSsk X a oe cls dd pn i (x :: xs) (.cons s ss) := by
  obtain ⟨t1, p1, a1⟩ := h1.run
  obtain ⟨t2, p2, a2⟩ := h2.run
  refine ⟨_, pss_cons p1 p2, fun y σ H env μ H0 m D rm en px h => ?_⟩
  simp only [evHSs] at h
  refine a1 y σ H env μ H0 m { D with nx := t2 D } rm en px (SatO.mono (SatO.seq h) fun o μ1 q => ?_)
  intro H1 H01 m1 rm1 s1
  cases o with
  | nx env1 => exact fun σ1 en1 sl => a2 y σ1 H1 env1 μ1 H01 m1 D rm1 en1 ⟨sl, (px.step s1.same).2⟩ (q.mono fun o μ z => z.later s1)
  | rt d => exact fun v r => q H1 H01 m1 rm1 s1 v r
  | bk env1 => trivial
  | ct env1 => trivial
  | ex x env1 => trivial
end
theorem Gd.tr {X : Cx} {W W' : WX} (g : Gd Γ k N sc X W) (pn : List (Addr × Obj)) (xe : Value → Shared → Prop) (tk : TakesB Γ.wk (X.tr pn xe) W') (po : PassesOwn (model X.prog X.w) X.A X.env xe) : Gd Γ k N { sc with top := false } (X.tr pn xe) W' where
  hN := g.hN
  nd := g.nd
  hsc := g.hsc
  kind := g.kind
  calm := g.calm
  room := g.room
  tk := tk
  po := po
  fn := g.fn
  call := fun f nm h => ⟨(g.call f nm h).ok⟩
  calls := fun f nm h => ⟨(g.calls f nm h).ok⟩
  blt := g.blt
  glo := g.glo
  lev := g.lev
  cls := g.cls
  sub := g.sub
  xf := g.xf
  stk := fun z => nomatch z
  pa := fun z => nomatch z
/-- defs that let out exceptions without a context only -/
def Gam.strong (Γ : Gam) : Gam := { Γ with fn := Γ.fns, wk := false }
theorem Gd.trs {X : Cx} {W W' : WX} (g : Gd Γ k N sc X W) (pn : List (Addr × Obj)) (xe : Value → Shared → Prop) (tk : L2N.Takes (X.tr pn xe) W') (po : PassesOwn (model X.prog X.w) X.A X.env xe) : Gd Γ.strong k N { sc with top := false } (X.tr pn xe) W' where
  hN := g.hN
  nd := g.nd
  hsc := g.hsc
  kind := g.kind
  calm := g.calm
  room := g.room
  tk := tk
  po := po
  fn := g.fn
  call := fun f nm h => ⟨(g.calls f nm h).ok⟩
  calls := fun f nm h => ⟨(g.calls f nm h).ok⟩
  blt := g.blt
  glo := g.glo
  lev := g.lev
  cls := g.cls
  sub := g.sub
  xf := g.xf
  stk := fun z => nomatch z
  pa := fun z => nomatch z
theorem NmV.one {mg : Str → Option Value} {c : Str} {U U' : Value} (h : NmV mg c U) (h' : NmV mg c U') : U' = U := by
  rcases h with ⟨n1, _⟩ | ⟨n1, n2, _⟩ <;> rcases h' with ⟨n3, _⟩ | ⟨n3, n4, _⟩
  · rw [n1] at n3; exact (Option.some.inj n3).symm
  · rw [n1] at n3; cases n3
  · rw [n1] at n3; cases n3
  · rw [n2] at n4; exact (Option.some.inj n4).symm
theorem NmV.names {X : Cx} {W : WX} (g : Gd Γ k N sc X W) {c : Str} {U : Value} (h : NmV X.mg c U) (hg : giB (sc.names.lookup c) = true) (hd : (c == ("__debug__" : Str)) = false) : Names X c U := by
  refine ⟨g.gl hg, hd, ?_⟩
  rcases h with ⟨n1, _⟩ | ⟨n1, n2, n3, _⟩
  · exact .inl n1
  · exact .inr ⟨n1, n2, n3⟩
theorem lookT_mem {tab : List (Str × Bool)} {c : Str} {b : Bool} (h : lookT tab c = some b) : (c, b) ∈ tab := by
  unfold lookT at h
  obtain ⟨q, hq, hqe⟩ := Option.map_eq_some_iff.mp h
  have h5 := List.find?_some hq
  have h6 := List.mem_of_find?_eq_some hq
  simp only [decide_eq_true_eq] at h5
  obtain ⟨q1, q2⟩ := q
  simp only at h5 hqe
  subst h5 hqe
  exact h6
theorem EnvOk.unset {K : PySem.W.Frag} {H0 : Hp} {m : List Addr} {env : Envv} {σ : L2.St} (h : EnvOk K H0 m env σ) (j : Nat) (z : Option V) : EnvOk K H0 m (env.set j none) (σ.set j z) := by
  refine ⟨by simpa using h.len, fun l d e => ?_⟩
  by_cases hj : j = l
  · subst hj
    by_cases hl : j < env.length
    · rw [List.getElem?_set_self hl] at e; cases e
    · rw [List.getElem?_eq_none (by simpa using hl)] at e; cases e
  · rw [List.getElem?_set_ne hj] at e ⊢
    exact h.get l d e
section
variable {X : Cx} {wk : Bool} {x n : Str} {c : Value} {i : Nat} {body suite : List Stmt} {b₀ : Stmt} {np pos pos' : Pos} {tb : WX → TS} {ts : Addr → Value → Option Addr → TS} {Wout : WX}
theorem psB_try_as (hs : X.stack = X.env :: X.outer) (hf : X.env.frame = some X.env.locals) (hN : X.N.Nodup) (hi : X.N[i]? = some n) (hln : X.env.kindOf n = some .local) (hc : Names X x c) (tk : TakesB wk X Wout)
    (hb : ∀ (W : WX) (pn : List (Addr × Obj)) (xe : Value → Shared → Prop), TakesB wk (X.tr pn xe) W → PassesOwn (model X.prog X.w) X.A X.env xe → PSs (X.tr pn xe) body (tb W))
    (hsu : ∀ (a : Addr) (oe : Obj) (cls : Value) (d : Option Addr) (pn : List (Addr × Obj)), Zc cls d oe → (∃ vs, oe.data = .fields vs) → PSs (X.suite a ((a, oe) :: pn)) (b₀ :: suite) (ts a cls d)) :
    PS X (.Try body [.ExceptHandler (some (.Name x np)) (some n) (b₀ :: suite) pos'] [] [] pos) (fun D σ H => tb (wAs X.K c i ts Wout D) D σ H) := by
  cases wk with
  | false => exact L2N.ps_try_as hs hf hN hi hln hc tk hb fun a oe cls d pn hz => hsu a oe cls d pn hz.zc
  | true => exact L2.ps_try_as hs hf hN hi hln hc tk hb hsu
theorem psB_try_one (hs : X.stack = X.env :: X.outer) (hf : X.env.frame = some X.env.locals) (tk : TakesB wk X Wout)
    (hb : ∀ (W : WX) (pn : List (Addr × Obj)) (xe : Value → Shared → Prop), TakesB wk (X.tr pn xe) W → PassesOwn (model X.prog X.w) X.A X.env xe → PSs (X.tr pn xe) body (tb W)) (hc : Names X x c)
    (hsu : ∀ (a : Addr) (oe : Obj) (cls : Value) (d : Option Addr) (pn : List (Addr × Obj)), Zc cls d oe → (∃ vs, oe.data = .fields vs) → PSs (X.suite a ((a, oe) :: pn)) (b₀ :: suite) (ts a cls d)) :
    PS X (.Try body [.ExceptHandler (some (.Name x np)) none (b₀ :: suite) pos'] [] [] pos) (fun D σ H => tb (wMany X.K Wout D [(c, ts)]) D σ H) := by
  cases wk with
  | false => exact L2N.ps_try_many hs hf tk hb (.cons hc (fun a oe cls d pn hz => hsu a oe cls d pn hz.zc) .nil)
  | true => exact L2.ps_try_many hs hf tk hb (.cons hc hsu .nil)
end
/-- try: body, except c as n: suite -/
theorem vs_tryA {c n : Str} {j : Nat} {tab : List (Str × Bool)} {body suite : List Stmt} {b₀ : Stmt} {b : Ss} {h : HSs} {np pos' : Pos} (ht : sc.top = true) (hi : N[j]? = some n) (hln : sc.names.lookup n = some .local) (hgc : giB (sc.names.lookup c) = true) (hdc : (c == ("__debug__" : Str)) = false)
    (htab : ∀ p ∈ tab, (p.1, c, p.2) ∈ Γ.sub) (hne : tab ≠ []) (hb : VSs Γ k N { sc with top := false } body b) (hh : ∀ X W, Gd Γ k N sc X W → ∀ a oe cls dd pn, Zc cls dd oe → (∃ vs, oe.data = .fields vs) → HSsk X a oe cls dd pn (some j) (b₀ :: suite) h) :
    VS Γ k N sc (.Try body [.ExceptHandler (some (.Name c np)) (some n) (b₀ :: suite) pos'] [] [] pos) (.tryx b c tab (some j) h) := ⟨fun X W g => by
  obtain ⟨hs, hf⟩ := g.stk ht
  obtain ⟨U, nv⟩ : ∃ U, NmV X.mg c U := by
    cases tab with
    | nil => exact absurd rfl hne
    | cons p r =>
      obtain ⟨_, U, _, _, nv, _⟩ := g.sub _ _ _ (htab p (by simp))
      exact ⟨U, nv⟩
  have hbr := fun W' pn xe tk po => hb.run (X.tr pn xe) W' (g.tr (W' := W') pn xe tk po)
  have hhr := fun a oe cls dd pn hz hf => (hh X W g a oe cls dd pn hz hf).run
  let tb : WX → TS := fun W' D σ H => ∀ pn xe tk po, (hbr W' pn xe tk po).choose D σ H
  let ts : Addr → Value → Option Addr → TS := fun a cls dd D σ H => ∀ oe pn hz hf, (hhr a oe cls dd pn hz hf).choose D σ H
  refine ⟨_, psB_try_as (i := j) (tb := tb) (ts := ts) hs hf (by rw [g.hN]; exact g.nd) (by rw [g.hN]; exact hi) (by unfold Env.kindOf; rw [g.hsc]; exact hln) (nv.names g hgc hdc) g.tk
    (fun W' pn xe tk po => ⟨fun pins s σ H D I q => ((hbr W' pn xe tk po).choose_spec.1).run pins s σ H D I (q pn xe tk po)⟩)
    (fun a oe cls dd pn hz hf => ⟨fun pins s σ H D I q => ((hhr a oe cls dd pn hz hf).choose_spec.1).run pins s σ H D I (q oe pn hz hf)⟩), fun σ H env μ H0 m D rm en hq => ?_⟩
  simp only [evS] at hq
  intro pn xe tk po
  refine (hbr _ pn xe tk po).choose_spec.2 σ H env μ H0 m D rm en ?_
  cases er : evSs Γ.F b env μ with
  | none => rw [er] at hq; exact hq.elim
  | some p =>
    obtain ⟨o, μ1⟩ := p
    rw [er] at hq
    cases o with
    | nx env1 => exact hq
    | rt d => exact hq
    | bk env1 => exact hq
    | ct env1 => exact hq
    | ex x env1 =>
      intro H1 H01 m1 rm1 s1 σ1 cls dd en1 ex1
      obtain ⟨C, e1, e2, e3⟩ := ex1
      simp only [tryO] at hq
      split at hq
      · rename_i hl
        obtain ⟨C', U', m', _, nv', xm, _⟩ := g.sub _ _ _ (htab _ (lookT_mem hl))
        have e1' : X.mg x.cls = some (.ref C) := e1
        rw [e1'] at m'
        cases m'
        obtain rfl := nv.one nv'
        refine ⟨true, by rw [e2]; exact xm, fun _ a na oe pn' hz hf' => ?_, fun z => (by cases z)⟩
        split at hq
        · rename_i hok
          have hjl : j < σ1.length := by rw [← en1.len]; simpa [okI] using hok
          refine (hhr a oe cls dd pn' hz hf').choose_spec.2 x (σ1.set j (some (.ref a))) H1 (unbE (some j) env1) μ1 H01 m1 _ rm1 (en1.unset j _) ⟨fun j' hj' => ?_, C, e1, e2, e3⟩ ?_
          · cases hj'
            rw [List.getElem?_set_self hjl]
          · show SatO (evHSs x h (unbE (some j) env1) μ1) _
            cases eh : evHSs x h (unbE (some j) env1) μ1 with
            | none => rw [eh] at hq; exact hq.elim
            | some p =>
              obtain ⟨o, μ2⟩ := p
              rw [eh] at hq
              intro H2 H02 m2 rm2 s2
              have hq : PostS X W D H H0 m (unbO (some j) o) μ2 := hq
              cases o with
              | nx env2 => exact fun σ2 en2 _ => hq H2 H02 m2 rm2 (s1.trans s2) _ (en2.unset j none)
              | rt d => exact fun v r => hq H2 H02 m2 rm2 (s1.trans s2) v r
              | bk env2 => trivial
              | ct env2 => trivial
              | ex y env2 => trivial
        · exact hq.elim
      · rename_i hl
        obtain ⟨C', U', m', _, nv', xm, _⟩ := g.sub _ _ _ (htab _ (lookT_mem hl))
        have e1' : X.mg x.cls = some (.ref C) := e1
        rw [e1'] at m'
        cases m'
        obtain rfl := nv.one nv'
        refine ⟨false, by rw [e2]; exact xm, fun z => (by cases z), fun _ => ?_⟩
        exact hq H1 H01 m1 rm1 s1 σ1 cls dd en1 ⟨C, e1, e2, e3⟩
      · exact hq.elim⟩
/-- try: body, except c: suite -/
theorem vs_tryN {c : Str} {tab : List (Str × Bool)} {body suite : List Stmt} {b₀ : Stmt} {b : Ss} {h : HSs} {np pos' : Pos} (ht : sc.top = true) (hgc : giB (sc.names.lookup c) = true) (hdc : (c == ("__debug__" : Str)) = false)
    (htab : ∀ p ∈ tab, (p.1, c, p.2) ∈ Γ.sub) (hne : tab ≠ []) (hb : VSs Γ k N { sc with top := false } body b) (hh : ∀ X W, Gd Γ k N sc X W → ∀ a oe cls dd pn, Zc cls dd oe → (∃ vs, oe.data = .fields vs) → HSsk X a oe cls dd pn none (b₀ :: suite) h) :
    VS Γ k N sc (.Try body [.ExceptHandler (some (.Name c np)) none (b₀ :: suite) pos'] [] [] pos) (.tryx b c tab none h) := ⟨fun X W g => by
  obtain ⟨hs, hf⟩ := g.stk ht
  obtain ⟨U, nv⟩ : ∃ U, NmV X.mg c U := by
    cases tab with
    | nil => exact absurd rfl hne
    | cons p r =>
      obtain ⟨_, U, _, _, nv, _⟩ := g.sub _ _ _ (htab p (by simp))
      exact ⟨U, nv⟩
  have hbr := fun W' pn xe tk po => hb.run (X.tr pn xe) W' (g.tr (W' := W') pn xe tk po)
  have hhr := fun a oe cls dd pn hz hf => (hh X W g a oe cls dd pn hz hf).run
  let tb : WX → TS := fun W' D σ H => ∀ pn xe tk po, (hbr W' pn xe tk po).choose D σ H
  let ts : Addr → Value → Option Addr → TS := fun a cls dd D σ H => ∀ oe pn hz hf, (hhr a oe cls dd pn hz hf).choose D σ H
  refine ⟨_, psB_try_one (tb := tb) (ts := ts) hs hf g.tk
    (fun W' pn xe tk po => ⟨fun pins s σ H D I q => ((hbr W' pn xe tk po).choose_spec.1).run pins s σ H D I (q pn xe tk po)⟩)
    (nv.names g hgc hdc) (fun a oe cls dd pn hz hf => ⟨fun pins s σ H D I q => ((hhr a oe cls dd pn hz hf).choose_spec.1).run pins s σ H D I (q oe pn hz hf)⟩), fun σ H env μ H0 m D rm en hq => ?_⟩
  simp only [evS] at hq
  intro pn xe tk po
  refine (hbr _ pn xe tk po).choose_spec.2 σ H env μ H0 m D rm en ?_
  cases er : evSs Γ.F b env μ with
  | none => rw [er] at hq; exact hq.elim
  | some p =>
    obtain ⟨o, μ1⟩ := p
    rw [er] at hq
    cases o with
    | nx env1 => exact hq
    | rt d => exact hq
    | bk env1 => exact hq
    | ct env1 => exact hq
    | ex x env1 =>
      intro H1 H01 m1 rm1 s1 σ1 cls dd en1 ex1
      obtain ⟨C, e1, e2, e3⟩ := ex1
      simp only [tryO] at hq
      split at hq
      · rename_i hl
        obtain ⟨C', U', m', _, nv', xm, _⟩ := g.sub _ _ _ (htab _ (lookT_mem hl))
        have e1' : X.mg x.cls = some (.ref C) := e1
        rw [e1'] at m'
        cases m'
        obtain rfl := nv.one nv'
        refine ⟨true, by rw [e2]; exact xm, fun _ a na oe pn' hz hf' => ?_, fun z => (by cases z)⟩
        split at hq
        · refine (hhr a oe cls dd pn' hz hf').choose_spec.2 x σ1 H1 (unbE none env1) μ1 H01 m1 _ rm1 en1 ⟨fun j' hj' => (by cases hj'), C, e1, e2, e3⟩ ?_
          show SatO (evHSs x h (unbE none env1) μ1) _
          cases eh : evHSs x h (unbE none env1) μ1 with
          | none => rw [eh] at hq; exact hq.elim
          | some p =>
            obtain ⟨o, μ2⟩ := p
            rw [eh] at hq
            intro H2 H02 m2 rm2 s2
            have hq : PostS X W D H H0 m (unbO none o) μ2 := hq
            cases o with
            | nx env2 => exact fun σ2 en2 _ => hq H2 H02 m2 rm2 (s1.trans s2) _ en2
            | rt d => exact fun v r => hq H2 H02 m2 rm2 (s1.trans s2) v r
            | bk env2 => trivial
            | ct env2 => trivial
            | ex y env2 => trivial
        · exact hq.elim
      · rename_i hl
        obtain ⟨C', U', m', _, nv', xm, _⟩ := g.sub _ _ _ (htab _ (lookT_mem hl))
        have e1' : X.mg x.cls = some (.ref C) := e1
        rw [e1'] at m'
        cases m'
        obtain rfl := nv.one nv'
        refine ⟨false, by rw [e2]; exact xm, fun z => (by cases z), fun _ => ?_⟩
        exact hq H1 H01 m1 rm1 s1 σ1 cls dd en1 ⟨C, e1, e2, e3⟩
      · exact hq.elim⟩
theorem pmk5_own {X : Cx} {C : Addr} {bmB : List Value} {B newId initId : String} {x m : Str} {j : Nat} {p p2 pos : Pos} (F : ExcBaseFacts B newId initId bmB) (q : PySem.W.excIn X.K C bmB newId = true) (gC : X.mg x = some (.ref C)) (kC : PySem.W.keepIn X.K (.ref C) = true) (r : Raises X (.ref C)) (hg : Gl X x)
    (hdb : (x == ("__debug__" : Str)) = false) : L2H.PMk5 X (.Call (.Name x p) [.Constant (.str m) j p2] [] pos) (fun _ H Q => Q (.ref C) none H) := by
  intro pins s σ H Q I h
  refine wpAny_Call_Name_kw (ld_glob I hg gC ?_ hdb)
  have ha : PA X [.Constant (.str m) j p2] (tCons (tC (.str m)) tNil) := pa_cons pe_str pa_nil
  refine PySem.W.callWith_K (h₀ := X.base) I.ok.mod.kin kC (thn (ha.run pos pins s σ H (fun vs H1 => vs = [V.str m] ∧ H = H1) I ⟨rfl, rfl⟩) fun us s1 hh => ?_)
  obtain ⟨vs, H1, I1, r1, ev, eH⟩ := hh
  subst ev
  rw [← eH] at I1
  refine ⟨I1.kIn, ?_⟩
  cases r1 with
  | cons ru rn =>
    rename_i u us'
    cases rn
    show wpAny _ _ (call (.ref C) [u]) _ _ _
    obtain ⟨bm, N, nm, qn, bs, hdct, sn, sub, ab, col, dd, k0, k1, k2, k3, k5, mN, hC, hN, hni, T⟩ := exc_obj I1.kIn q
    refine wpAny_call_exc_subT F T hC hN hni (fun h' e hm => ?_) (by show 1 ≤ sizeLine; rw [sizeLine_eq]; omega)
    exact L2H.mk_of5 I1 hm r h (I1.hok.gone hm.new)
/-- try: one call, except c: raise c2(m) from None -/
theorem vs_tryr {c c2 m : Str} {tab : List (Str × Bool)} {x : Expr} {e : E} {bp np q1 q2 q3 q4 q5 pos' : Pos} {j j2 : Nat} (ht : sc.top = true) (hwk : Γ.wk = true) (hgc : giB (sc.names.lookup c) = true) (hdc : (c == ("__debug__" : Str)) = false)
    (htab : ∀ p ∈ tab, (p.1, c, p.2) ∈ Γ.sub) (hne : tab ≠ []) (hb : VS Γ.strong k N { sc with top := false } (.Expr x bp) (.xpr e)) (hc2 : (⟨c2, [], false⟩ : ClsI) ∈ Γ.cls) (hg2 : giB (sc.names.lookup c2) = true) (hd2 : (c2 == ("__debug__" : Str)) = false) :
    VS Γ k N sc (.Try [.Expr x bp] [.ExceptHandler (some (.Name c np)) none [.Raise (some (.Call (.Name c2 q1) [.Constant (.str m) j q2] [] q3)) (some (.Constant .none j2 q4)) q5] pos'] [] [] pos) (.tryr e c tab c2 m) := ⟨fun X W g => by
  obtain ⟨hs, hf⟩ := g.stk ht
  obtain ⟨U, nv⟩ : ∃ U, NmV X.mg c U := by
    cases tab with
    | nil => exact absurd rfl hne
    | cons p r =>
      obtain ⟨_, U, _, _, nv, _⟩ := g.sub _ _ _ (htab p (by simp))
      exact ⟨U, nv⟩
  have tk2 : L2.Takes X W := by
    have := g.tk
    rw [hwk] at this
    exact this
  obtain ⟨C, mgC, FC, hno, hini⟩ := g.cls _ hc2
  rw [if_neg (show ¬ (false = true) by decide)] at hini
  obtain ⟨q, kC, tC⟩ := hini
  have hbr := fun W' pn xe tk po => hb.run (X.tr pn xe) W' (g.trs (W' := W') pn xe tk po)
  let tb : WX → TS := fun W' D σ H => ∀ pn xe tk po, (hbr W' pn xe tk po).choose { D with nx := fun σ H => D.nx σ H } σ H
  refine ⟨_, L2H.ps_try_onlyX (tb := tb) (Wout := W) hs hf (nv.names g hgc hdc) (g.pa ht) tk2
    (fun W' pn xe tkn tkp po => pss_one ⟨fun pins s σ H D I q => ((hbr W' pn xe tkn po).choose_spec.1).run pins s σ H D I (q pn xe tkn po)⟩)
    (fun a oe cls d pn hz hfd tkS hot => pss_one (L2H.ps_raiseHN hot tkS (pmk5_own (X := L2H.suiteX X a ((a, oe) :: pn)) PySem.F.excBase_ValueError q mgC kC (raises_own FC.ex tC) (g.gl hg2) hd2))), fun σ H env μ H0 m D rm en hq => ?_⟩
  simp only [evS] at hq
  intro pn xe tk po
  refine (hbr _ pn xe tk po).choose_spec.2 σ H env μ H0 m _ rm en ?_
  have er0 : evS Γ.strong.F (.xpr e) env μ = evS Γ.F (.xpr e) env μ := rfl
  rw [er0]
  simp only [evS] at hq ⊢
  cases er : MI.lift (evE Γ.F e env) env (fun _ => outO (.nx env)) μ with
  | none => rw [er] at hq; exact hq.elim
  | some p =>
    obtain ⟨o, μ1⟩ := p
    rw [er] at hq
    cases o with
    | nx env1 => exact hq
    | rt d => exact hq
    | bk env1 => exact hq
    | ct env1 => exact hq
    | ex x env1 =>
      intro H1 H01 m1 rm1 s1 σ1 cls dd en1 ex1
      obtain ⟨C1, e1, e2, e3⟩ := ex1
      simp only [tryR] at hq
      split at hq
      · rename_i hl
        obtain ⟨C', U', m', _, nv', xm, _⟩ := g.sub _ _ _ (htab _ (lookT_mem hl))
        have e1' : X.mg x.cls = some (.ref C1) := e1
        rw [e1'] at m'
        cases m'
        obtain rfl := nv.one nv'
        exact ⟨true, by rw [e2]; exact xm, fun _ a na => hq H1 H01 m1 rm1 s1 σ1 (.ref C) none en1 ⟨C, mgC, rfl, .inl ⟨rfl, rfl⟩⟩, fun z => (by cases z)⟩
      · rename_i hl
        obtain ⟨C', U', m', _, nv', xm, _⟩ := g.sub _ _ _ (htab _ (lookT_mem hl))
        have e1' : X.mg x.cls = some (.ref C1) := e1
        rw [e1'] at m'
        cases m'
        obtain rfl := nv.one nv'
        exact ⟨false, by rw [e2]; exact xm, fun z => (by cases z), fun _ => hq H1 H01 m1 rm1 s1 σ1 cls dd en1 ⟨C1, e1, e2, e3⟩⟩
      · exact hq.elim⟩
end MI
/-! MIN: an exception that is made and not raised; its fields. -/
namespace MI
open PySem PySem.Spec PyProof.Rows L2
def tNew (C : Addr) (sp : Sp) (ta : TA) : TE := fun σ H Q => ta σ H fun vs H1 => vs.length ≤ 1000 ∧ ∀ a, H1 a = none → sp (.ref a :: (vs ++ [])) (upd H1 a (exo a C none)) (fun v H2 => v = .non ∧ Q (.ref a) H2) (fun _ _ _ => False)
theorem pe_new {X : Cx} {CX : CXT} {nm : Str} {C fI : Addr} {j : Nat} {fd : FuncData} {prs : List Str} {sp : Sp} {e1 : Expr} {es1 : List Expr} {t1 : TA} {q1 q2 : Pos} (TC : OexC X.K C)
    (hI : PySem.W.findIn X.K (.ref C) "__init__" = some (some (.ref fI))) (hT : PySem.W.typeIn X.K (.ref fI) = some (.type "function")) (FI : FnOk X.prog X.w X.K X.mg X.base CX j fI fd prs sp)
    (rm : Room (j + 1) X.A) (bd : Binds X.K fd prs []) (ps0 : Passes CX X (fun _ _ _ => False)) (gl : Gl X nm) (mgx : X.mg nm = some (.ref C)) (pa : PA X (e1 :: es1) t1) (dbg : (nm == ("__debug__" : Str)) = false)
    (st1 : starEach (e1 :: es1) X.env = (false, eval e1 X.env) :: starEach es1 X.env) (st2 : (backTo q2 (starEach es1 X.env)).any (·.1) = false) :
    PE X (.Call (.Name nm q1) (e1 :: es1) [] q2) (tNew C sp t1) := by
  refine ⟨fun pns s0 σ0 Hh Qx Iv hh => ?_⟩
  have TC' := TC.cls
  obtain ⟨a1, a2, a3, a4, bmv, a6, a7, a8, a9, a10, a11, a12, a13, a14, a15, lkC, rve⟩ := TC'
  refine wpAny_Call_Name_kw (ld_glob Iv gl mgx ?_ dbg)
  refine PySem.W.callWith_K (h₀ := X.base) Iv.ok.mod.kin TC.kC (thn (pa.run q2 pns s0 σ0 Hh _ Iv hh) fun wv sA ⟨xs, HA, IA, rA, hzA, qA⟩ => ⟨IA.kIn, ?_⟩) st1 st2
  show wpAny _ _ (call (.ref C) wv) _ _ _
  obtain ⟨g0, g1, g2, g3, g4⟩ := sA
  let a0 : Addr := g0.objs.size + 1
  have big : g0.objs.size ≤ a0 := Nat.le_succ _
  have free : HA a0 = none := IA.hok.fresh big
  have hsp := qA a0 free
  rw [List.append_nil] at hsp
  have keep : ∀ c o, g0.get? c = some o → ((g0.push (PySem.W.kdv_tup wv)).push (PySem.HandSPX.excO C g0.objs.size)).get? c = some o := fun c o z =>
    Heap.get?_push_of_some _ (Heap.get?_push_of_some _ z)
  have there : ((g0.push (PySem.W.kdv_tup wv)).push (PySem.HandSPX.excO C g0.objs.size)).get? (g0.objs.size + 1) = some (PySem.HandSPX.excO C g0.objs.size) := by heap_get
  have IB : Inv X pns σ0 (upd HA a0 (exo a0 C none)) ⟨(g0.push (PySem.W.kdv_tup wv)).push (PySem.HandSPX.excO C g0.objs.size), g1, g2, g3, g4⟩ :=
    IA.laid (t' := g3) (a := a0) (o := exo a0 C none) (h' := (g0.push (PySem.W.kdv_tup wv)).push (PySem.HandSPX.excO C g0.objs.size)) keep big (exo_ok there)
  have vals : Vals (V.ref a0 :: xs) (Value.ref a0 :: wv) := .cons rfl rA
  have len1 : (Value.ref a0 :: wv ++ []).length = prs.length := by
    have z := vals.length
    rw [FI.len _ _ _ _ hsp] at z
    rw [List.append_nil]
    exact z.symm
  have few : wv.length ≤ sizeLine := by
    rw [← Paired.length rA, sizeLine_eq]
    omega
  have bnd := bd _ (Value.ref a0 :: wv) IB.kIn len1
  rw [List.append_nil] at bnd
  have run := FI.run _ X.stack _ _ ⟨Value.ref a0 :: wv, []⟩ (Value.ref a0 :: wv) _ _ (fun _ _ _ => False) (rm.make C wv []) (IB.env0.make C wv []) bnd vals hsp
  refine wpAny_call (PySem.HandSPX.call_own F.excBase_ValueError (fun Y => PySem.HandSPX.refsVE_contains Y bmv rve) (IA.kIn _ _ lkC) (PySem.W.looks_findIn IA.kIn hI) (fun me => PySem.W.bind_fn IA.kIn me hT) few
    (codeAny_mono run fun res sB hB => ?_))
  cases res with
  | error er => exact ps0 pns σ0 _ _ er sB IB hB
  | ok fl =>
    cases fl with
    | next => exact False.elim hB
    | brk => exact False.elim hB
    | cont => exact False.elim hB
    | ret u =>
      obtain ⟨v, HB, osB, bareB, unB, hokB, rv, ev, qB⟩ := hB
      subst ev
      have IC : Inv X pns σ0 HB sB := IB.call' (ch := []) osB unB hokB bareB (fun b z => absurd z (by simp))
      exact ⟨rv, .ref a0, HB, IC, rfl, qB⟩
/-- x.f, x an exception that was made -/
def tFld (K : PySem.W.Frag) (f : Str) (te : TE) : TE := fun σ H Q => te σ H fun x H1 => ∃ (a C dx : Addr) (fs : List (Str × V)) (v : V), x = .ref a ∧ XfC K C ∧ PySem.W.findIn K (.ref C) f = some none ∧ H1 a = some (exo a C (some dx)) ∧ H1 dx = some (exd dx fs) ∧ fs.lookup f = some v ∧ Q v H1
theorem pe_fld {X : Cx} {e : Expr} {te : TE} {pos : Pos} {n : Str} (he : PE X e te) (hb : attributeBase e n X.env (eval e X.env) = eval e X.env := by rfl) : PE X (.Attribute e n pos) (tFld X.K n te) := by
  refine ⟨fun pins s σ H Q I h => ?_⟩
  refine attr_of hb (thn (he.run pins s σ H _ I h) fun u s1 hh => ?_)
  obtain ⟨x, H1, I1, rx, a, C, dd, fs, v, ex, T, hno, ea, ed, l, q⟩ := hh
  subst ex
  obtain rfl : u = Value.ref a := rx
  obtain ⟨t0, hoe⟩ := exo_at I1.hok ea
  obtain ⟨mA, hns, hr⟩ := exd_at I1.hok ed
  obtain ⟨od, ho, hl⟩ := lookIn_ns hns
  obtain ⟨w, hu, ru⟩ := RelO.some_of (v := v) (o := mA n) (by rw [← l]; exact hr n)
  have J : PySem.W.InstAt s1.heap a ({ cls := .ref C, dict := some dd, data := .fields #[.ref t0, .none, .none, .none, .bool false, .none] } : Obj) C (some od) := ⟨hoe, rfl, rfl, ho⟩
  exact HandSPX.exc_get I1.kIn J T.ga T.gg T.exC (PySem.W.findObj_own T.hdC hno rfl (by rw [hl, hu])) (handed_of ru) ⟨v, H1, I1.tok _, ru, q⟩
variable {Γ : Gam} {k : Nat} {N : List Str} {sc : Sco} {pos : Pos}
theorem ve_new {c : Str} {fs : List Str} {e0 : Expr} {xs : List Expr} {es : Es} {p p2 : Pos} (hc : (⟨c, fs, true⟩ : ClsI) ∈ Γ.cls) (hl : fs.length ≤ 9) (hg : giB (sc.names.lookup c) = true) (hd : (c == ("__debug__" : Str)) = false) (ha : VEs Γ k N sc (e0 :: xs) es) :
    VE Γ k N sc (.Call (.Name c p) (e0 :: xs) [] p2) (.new c fs es) := ⟨fun X W g => by
  obtain ⟨ta, pa, aa⟩ := ha.run X W g
  obtain ⟨C, mgC, FC, hno, hini⟩ := g.cls _ hc
  rw [if_pos rfl] at hini
  obtain ⟨T, fI, fd, slf, hI, hT, hb, FI⟩ := hini
  have hp := ha.pl
  simp only [List.all_cons, Bool.and_eq_true] at hp
  have ps0 : Passes (L2N.CX X.prog X.w) X (fun _ _ _ => False) := L2N.passes_call g.tk.n (fun _ _ _ _ z => z.elim)
  refine ⟨_, pe_new T hI hT FI g.rsvm hb ps0 (g.gl hg) mgC pa hd (starEach_pl hp.1) (starEach_any hp.2), fun σ H env μ H0 m Q rm en h => ?_⟩
  simp only [evE] at h
  refine aa.bnd rm en h fun ds μ1 vs H1 H01 m1 rm1 s1 r1 en1 h1 => ?_
  split at h1
  · rename_i ts et
    split at h1
    · rename_i hz
      have h1 : PostE X.K Q H H0 m (.ref μ1.length) (μ1 ++ [.exn (fs.zip ts).reverse]) := h1
      have et := toTs_map et
      have hlen : vs.length = fs.length := by rw [← reps_len r1, et, List.length_map, hz]
      refine ⟨by omega, fun a na => ⟨a, vs, by rw [List.append_nil], hlen, T, hno, upd_same, fun dx hn hne => ⟨rfl, ?_⟩⟩⟩
      have hn' : H1 dx = none := by
        rw [upd_ne hne] at hn
        exact hn
      have e : upd (upd (upd H1 a (exo a C none)) dx (exd dx (fs.zip vs).reverse)) a (exo a C (some dx)) = upd (upd H1 dx (exd dx (fs.zip vs).reverse)) a (exo a C (some dx)) := by
        funext b
        by_cases h2 : b = a
        · subst h2
          rw [upd_same, upd_same]
        · rw [upd_ne h2, upd_ne h2]
          by_cases h3 : b = dx
          · subst h3
            rw [upd_same, upd_same]
          · rw [upd_ne h3, upd_ne h3, upd_ne h2]
      rw [e]
      have rm2 := rm1.newF (o := exd dx (fs.zip vs).reverse) hn'
      have st2 : Step H1 H01 m1 _ _ m1 := Step.newF rm1.same (o := exd dx (fs.zip vs).reverse) hn'
      have na2 : upd H1 dx (exd dx (fs.zip vs).reverse) a = none := by rw [upd_ne (Ne.symm hne)]; exact na
      have rp : repF X.K (upd H01 dx (exd dx (fs.zip vs).reverse)) (fs.zip ts).reverse (fs.zip vs).reverse := by
        refine repF.mono (Same.upd (rm1.same.free hn')) (repF_zip ?_)
        rw [repT_ts (m := m1), ← et]
        exact r1
      refine h1 (.ref a) _ _ (m1 ++ [a]) (rm2.newC (o := exo a C (some dx)) (cl := .exn (fs.zip ts).reverse) na2 ⟨?_, C, dx, _, upd_same, upd_same, rp, ⟨FC.ga, FC.gg, FC.ex, FC.hd⟩, fun q hq => ?_⟩) (s1.trans (st2.trans (Step.newC na2))) ?_
      · exact rm2.same.free na2
      · have hm := List.mem_reverse.mp hq
        exact hno _ (List.of_mem_zip hm).1
      · simp only [rep]
        exact ⟨a, by rw [← rm1.len]; simp, rfl⟩
    · exact h1.elim
  · exact h1.elim⟩
theorem ve_fldv {i : Nat} {x f : Str} {p : Pos} (h1 : N[i]? = some x) (h2 : visB (sc.names.lookup x) = true) (h3 : (x == ("__debug__" : Str)) = false) (h4 : (x == ("__classdict__" : Str)) = false) : VE Γ k N sc (.Attribute (.Name x p) f pos) (.fldv i f) := ⟨fun X W g => by
  refine ⟨_, pe_fld (pe_var (i := i) (by rw [g.hN]; exact h1) (g.vis h2) h3 h4), fun σ H env μ H0 m Q rm en h => ?_⟩
  simp only [evE] at h
  split at h
  · rename_i c e
    split at h
    · rename_i fts ec
      split at h
      · rename_i t et
        have h : PostE X.K Q H H0 m (.t t) μ := h
        obtain ⟨v, e1, r1⟩ := en.get i _ e
        simp only [rep] at r1
        obtain ⟨a, ha, rfl⟩ := r1
        obtain ⟨_, C, dx, fvs, g1, g2, g3, g4, g5⟩ := rm.ref ha ec
        obtain ⟨w, l1, l2⟩ := repF_get g3 et
        have hf : PySem.W.findIn X.K (.ref C) f = some none := by
          unfold lookF at et
          obtain ⟨z, hz⟩ : ∃ z, fts.find? (fun p => decide (p.1 = f)) = some z := by
            cases hq : fts.find? (fun p => decide (p.1 = f)) with
            | none => rw [hq] at et; cases et
            | some z => exact ⟨z, rfl⟩
          have hm := List.mem_of_find?_eq_some hz
          have hp := List.find?_some hz
          simp only [decide_eq_true_eq] at hp
          rw [← hp]
          exact g5 z hm
        exact ⟨.ref a, e1, a, C, dx, fvs, w, rfl, g4, hf, g1, rm.same _ _ g2, l1, h w H H0 m rm Step.refl (by simp only [rep]; exact l2)⟩
      · exact h.elim
    · exact h.elim
  · exact h.elim⟩
end MI
/-! MIH: a def that is handed the handled exception: `if isinstance(e, (..)): return True` and `return isinstance(e, (..))`. -/
namespace MI
open PySem PySem.Spec PyProof.Rows L2

theorem Grw.trans {H H1 H2 : Hp} (h1 : Grw H H1) (h2 : Grw H1 H2) : Grw H H2 := by
  induction h2 with
  | refl => exact h1
  | tup _ hp ih => exact .tup ih hp
theorem Grw.keep {H H1 : Hp} (h : Grw H H1) {d : Addr} {o : HO} (e : H d = some o) : H1 d = some o := by
  induction h with
  | refl => exact e
  | @tup H1 p cs _ hp ih =>
    rw [upd_ne (fun z => by rw [z, hp] at ih; cases ih)]
    exact ih
theorem Grw.step {K : PySem.W.Frag} {H H1 H0 : Hp} {m : List Addr} {μ : Mem} (h : Grw H H1) (rm : RelM K H H0 m μ) : ∃ H01, RelM K H1 H01 m μ ∧ Step H H0 m H1 H01 m := by
  induction h with
  | refl => exact ⟨H0, rm, Step.refl⟩
  | tup _ hp ih =>
    obtain ⟨H01, rm1, s1⟩ := ih
    exact ⟨_, rm1.newF hp, s1.trans (Step.newF rm1.same hp)⟩
def nmsB : List Str → List Expr → Bool
  | [], [] => true
  | a :: as, .Name x _ :: xs => decide (x = a) && nmsB as xs
  | _, _ => false
def isTB (y : Str) (as : List Str) : Expr → Bool
  | .Call (.Name i _) [.Name z _, .Tuple xs _ _] [] _ => decide (i = "isinstance") && decide (z = y) && nmsB as xs
  | _ => false
def othB (y : Str) (as bs : List Str) : List Stmt → Bool
  | [.If c [.Return (some (.Constant (.bool b) _ _)) _] [] _, .Return (some e) _] => b && isTB y as c && isTB y bs e
  | _ => false
section
variable {X : Cx} {a : Addr} {oe : Obj} {pn : List (Addr × Obj)} {C : Addr} {dd : Option Addr}
theorem nmsB_cons {x : Str} {as : List Str} {xs : List Expr} (h : nmsB (x :: as) xs = true) : ∃ p r, xs = .Name x p :: r ∧ nmsB as r = true := by
  unfold nmsB at h
  split at h
  · rename_i e1
    cases e1
  · rename_i a1 as1 y p r e1
    cases e1
    simp only [Bool.and_eq_true, decide_eq_true_eq] at h
    obtain ⟨rfl, h⟩ := h
    exact ⟨p, r, rfl, h⟩
  · cases h
theorem pa_nms {Z : Cx} {tb : Str → Bool} (t : Value) : ∀ (as : List Str) (xs : List Expr), nmsB as xs = true → (∀ x ∈ as, Gl Z x ∧ (x == ("__debug__" : Str)) = false ∧ ∃ V, NmV Z.mg x V ∧ PySem.W.kitOne Z.K t V = some (tb x)) →
    ∃ (tt : TA) (cs : List V) (us : List Value), PA Z xs tt ∧ (∀ σ H R, R cs H → tt σ H R) ∧ Paired ClsV cs us ∧ cs.length = as.length ∧ PySem.W.kitAny Z.K t us = some (as.any tb)
  | [], xs, h, _ => by
    cases xs with
    | nil => exact ⟨_, [], [], pa_nil, fun σ H R h => h, .nil, rfl, rfl⟩
    | cons x xs => simp [nmsB] at h
  | x :: as, xs, h, hh => by
    obtain ⟨p, xs, rfl, h9⟩ := nmsB_cons h
    obtain ⟨tt, cs, us, h1, h2, h3, h4, h5⟩ := pa_nms t as xs h9 fun x hx => hh x (by simp [hx])
    obtain ⟨g1, g2, V, nv, k1⟩ := hh x (by simp)
    have k2 : PySem.W.kitAny Z.K t (V :: us) = some ((x :: as).any tb) := by
      refine kitAny_cons k1 (fun hb => ?_) fun hb => ?_
      · rw [h5, List.any_cons, hb, Bool.false_or]
      · rw [List.any_cons, hb, Bool.true_or]
    rcases nv with ⟨hmc, C2, rfl⟩ | ⟨hmn, hbt, hnn, ty, rfl⟩
    · exact ⟨_, .ref C2 :: cs, .ref C2 :: us, pa_cons (pe_glob (v := .ref C2) g1 hmc rfl g2) h1 (starEach_pl rfl), fun σ H R h => h2 _ _ _ h, .cons (.own _) h3, by simp [h4], k2⟩
    · exact ⟨_, .ty ty :: cs, .type ty :: us, pa_cons (pe_bltn (v := .ty ty) g1 hmn hbt rfl hnn g2) h1 (starEach_pl rfl), fun σ H R h => h2 _ _ _ h, .cons (.ty _) h3, by simp [h4], k2⟩
/-- isinstance(y, (a1, ..)) -/
theorem pe_isT {y : Str} {as : List Str} {tb : Str → Bool} {e : Expr} (FC : ClsF X.K C) (hz : Zc (.ref C) dd oe) (hf : ∃ vs, oe.data = .fields vs) (hN : X.N[0]? = some y) (hv : Vis X.env.scope y) (h3 : (y == ("__debug__" : Str)) = false) (h4 : (y == ("__classdict__" : Str)) = false)
    (hg : Gl X "isinstance") (hm : X.mg "isinstance" = none) (hl : as.length ≤ 1000) (hh : ∀ x ∈ as, Gl X x ∧ (x == ("__debug__" : Str)) = false ∧ ∃ V, NmV X.mg x V ∧ PySem.W.kitOne X.K (.ref C) V = some (tb x)) (h : isTB y as e = true) :
    ∃ t, PE (X.suite a ((a, oe) :: pn)) e t ∧ ∀ σ H Q, σ[0]? = some (some (.ref a)) → (∀ d, dd = some d → ∃ fs, H d = some (.xd fs)) → (∀ H', Grw H H' → Q (.bl (as.any tb)) H') → t σ H Q := by
  unfold isTB at h
  split at h
  · rename_i i p1 z p2 xs j p3 p4
    simp only [Bool.and_eq_true, decide_eq_true_eq] at h
    obtain ⟨⟨rfl, rfl⟩, hx⟩ := h
    obtain ⟨tt, cs, us, k1, k2, k3, k4, k5⟩ := pa_nms (Z := X.suite a ((a, oe) :: pn)) (tb := tb) (.ref C) as xs hx hh
    refine ⟨_, pe_callB (call_isXT FC hz hf) hg hm PyProof.Rows.boot_isinstance (pa_cons (pe_var (X := X.suite a ((a, oe) :: pn)) (i := 0) hN hv h3 h4) (pa_cons (pe_tup k1) pa_nil (starEach_pl rfl)) (starEach_pl rfl)) (by decide) (by decide) (starEach_pl rfl) (starEach_any rfl), fun σ H Q hs hd hq => ?_⟩
    refine ⟨.ref a, hs, k2 _ _ _ ⟨by rw [k4]; exact Nat.le_of_lt (small1000 hl), fun p hp => ?_⟩⟩
    exact ⟨p, cs, us, _, rfl, upd_same, k3, k5, fun d e => by
      obtain ⟨fs, hd⟩ := hd d e
      exact ⟨fs, by rw [upd_ne (fun z => by rw [z, hp] at hd; cases hd)]; exact hd⟩, hq _ (.tup .refl hp)⟩
  · cases h
theorem isTB_val {y : Str} {as : List Str} {e : Expr} (h : isTB y as e = true) : valX e = true := by
  unfold isTB at h
  split at h
  · rfl
  · cases h
theorem mark_deep {A : Around} {a : Value} (h : A.handled = some a) (env : Env) : A.deeper env = ((A.mark none).deeper env).mark (some a) := by
  cases A
  simp only at h
  subst h
  rfl
theorem fnZ_mk {P : Program} {w : World} {K : PySem.W.Frag} {mg : Str → Option Value} {base : Heap} {f : Addr} {fd : FuncData} {x qual : Str} {st : Stmt} {y : Str} {as bs : List Str} {tb : Str → Bool} (F : L2.Fun K x qual st f fd) (S : FnScope [y] [y] (defScope st))
    (hb : othB y as bs (defBody st) = true) (hv : visB ((defScope st).names.lookup y) = true) (h3 : (y == ("__debug__" : Str)) = false) (h4 : (y == ("__classdict__" : Str)) = false) (hgi : giB ((defScope st).names.lookup ("isinstance" : Str)) = true) (hm : mg "isinstance" = none)
    (FC : ClsF K C) (hl : as.length ≤ 1000 ∧ bs.length ≤ 1000) (hh : ∀ z ∈ as ++ bs, giB ((defScope st).names.lookup z) = true ∧ (z == ("__debug__" : Str)) = false ∧ ∃ V, NmV mg z V ∧ PySem.W.kitOne K (.ref C) V = some (tb z)) :
    FnZ P w K mg base 1 f fd y C ((as ++ bs).any tb) := by
  obtain ⟨oc, od, kV, doc, pm, an, cdv, ct, osl, rfl, lk, hcd⟩ := F.ex
  refine ⟨fun A outer s H args p dd Q hr hot hpin hfld hz hd e0 hbd hq => ?_⟩
  have KX : K.In s.heap := e0.mod.kin.keeps fun b o e => (e0.bs b o e).1
  have lim : s.heap.NoLimit := e0.mod.nolimit.keeps fun b o e => (e0.bs b o e).1
  have hkind : ∀ z ∈ [y].zip [Value.ref p.1], (defScope st).names.lookup z.1 = some .local ∨ ((defScope st).names.lookup z.1 = some .cell ∧ ((cellsFrom (s.heap.objs.size + 1) (defScope st).names []).lookup z.1).isSome = true) := fun ⟨n, v⟩ hy => by
    rcases S.par n (List.of_mem_zip hy).1 with q | q
    · exact .inl q
    · exact .inr ⟨q, PySem.W.cellsFrom_some _ _ _ (.inl q)⟩
  refine codeAny_call_function hr.depth (KX _ _ lk) rfl S.co S.gen rfl (PySem.W.codeRec_of KX hcd) (hbd _ _ _ _ ?_)
  refine wpAny_newFunctionEnv_cells S.kind hkind fun env he s1 xx => ?_
  subst he
  refine ⟨lim.keeps xx.toInCall.keep, codeAny_func ?_⟩
  have I : Inv (L2H.cxH (fun _ _ _ _ _ _ => False) P w K mg base [y] qual (defScope st) f cdv A outer s H (fun _ _ _ => False) p) [] (L2.start [y] [V.ref p.1]) H s1 := L2H.inv_startH S hpin e0 rfl (us := [Value.ref p.1]) (.cons rfl .nil) xx
  let X0 : Cx := cxOf (fun _ _ _ _ _ _ => False) P w K mg base [y] qual (defScope st) f cdv (A.mark none) outer s H (fun _ _ _ => False)
  have eZ : (L2H.cxH (fun _ _ _ _ _ _ => False) P w K mg base [y] qual (defScope st) f cdv A outer s H (fun _ _ _ => False) p).wish (fun _ _ => False) = X0.suite p.1 [(p.1, p.2)] := by
    have e := mark_deep hot (envOfC qual (defScope st) s.heap.objs.size f cdv)
    show ({ L2H.cxH (fun _ _ _ _ _ _ => False) P w K mg base [y] qual (defScope st) f cdv A outer s H (fun _ _ _ => False) p with A := A.deeper (envOfC qual (defScope st) s.heap.objs.size f cdv), xe := fun _ _ => False } : Cx) = _
    rw [e]
    rfl
  have I2 : Inv (X0.suite p.1 [(p.1, p.2)]) [] (L2.start [y] [V.ref p.1]) H s1 := by rw [← eZ]; exact I.wish _
  have gl : ∀ {z : Str}, giB ((defScope st).names.lookup z) = true → Gl X0 z := fun {z} h => by
    show (defScope st).names.lookup z = some .globalImplicit
    unfold giB at h
    split at h
    · assumption
    · cases h
  have vis : Vis X0.env.scope y := by
    show Vis (defScope st) y
    unfold visB at hv
    split at hv
    · exact .inl (by assumption)
    · exact .inr (.inl (by assumption))
    · exact .inr (.inr (by assumption))
    · cases hv
  have hbody : ∃ t, PSs (X0.suite p.1 [(p.1, p.2)]) (defBody st) t ∧ t { nx := fun _ H' => Q .non H', rt := Q } (L2.start [y] [V.ref p.1]) H := by
    generalize defBody st = body at hb
    unfold othB at hb
    split at hb
    · rename_i c b j q1 q2 q3 e q4
      simp only [Bool.and_eq_true] at hb
      obtain ⟨⟨rfl, hc⟩, he⟩ := hb
      obtain ⟨t1, p1, a1⟩ := pe_isT (X := X0) (a := p.1) (oe := p.2) (pn := []) (dd := dd) (tb := tb) FC hz hfld rfl vis h3 h4 (gl hgi) hm hl.1 (fun z hz => ⟨gl (hh z (by simp [hz])).1, (hh z (by simp [hz])).2⟩) hc
      obtain ⟨t2, p2, a2⟩ := pe_isT (X := X0) (a := p.1) (oe := p.2) (pn := []) (dd := dd) (tb := tb) FC hz hfld rfl vis h3 h4 (gl hgi) hm hl.2 (fun z hz => ⟨gl (hh z (by simp [hz])).1, (hh z (by simp [hz])).2⟩) he
      refine ⟨_, pss_cons (ps_if (pt_val p1 (isTrue_val (isTB_val hc))) (pss_cons (ps_ret pe_bl) pss_nil) pss_nil) (pss_cons (ps_ret p2) pss_nil), ?_⟩
      refine a1 _ _ _ rfl hd fun H1 g1 => ⟨_, rfl, ?_⟩
      cases h1 : as.any tb with
      | true =>
        rw [if_pos rfl]
        have := hq H1 g1
        rw [List.any_append, h1, Bool.true_or] at this
        exact this
      | false =>
        rw [if_neg Bool.false_ne_true]
        refine a2 _ _ _ rfl (fun d e => ?_) fun H2 g2 => ?_
        · obtain ⟨fs, hd⟩ := hd d e
          exact ⟨fs, g1.keep hd⟩
        · have := hq H2 (g1.trans g2)
          rw [List.any_append, h1, Bool.false_or] at this
          exact this
    · cases hb
  obtain ⟨t, ht, hq2⟩ := hbody
  have run : wpAny (model P w) (A.deeper (envOfC qual (defScope st) s.heap.objs.size f cdv)) (execs (defBody st) (envOfC qual (defScope st) s.heap.objs.size f cdv)) (SP (X0.suite p.1 [(p.1, p.2)]) [] { nx := fun _ H' => Q .non H', rt := Q }) (fun _ _ => False) s1 := by
    rw [mark_deep hot]
    exact ht.run [] s1 _ H _ I2 hq2
  refine wpAny_mono run (fun fl s' hs => ?_) fun e s' hs => False.elim hs
  have fin : ∀ {σ' : L2.St} {H' : Hp} {v : V} {u : Value}, Inv (X0.suite p.1 [(p.1, p.2)]) [] σ' H' s' → RelV v u → Q v H' → CE outer P w H s Q u s' :=
    fun {σ' H' v u} J rv q => ⟨v, H', J.os, J.bare, J.base, J.hok, rv, q⟩
  cases fl with
  | ret u =>
    obtain ⟨v, σ', H', J, rv, q⟩ := hs
    exact fin J rv q
  | next =>
    obtain ⟨σ', H', J, q⟩ := hs
    exact fin (v := V.non) (u := Value.none) J rfl q
  | brk =>
    obtain ⟨_, _, _, q⟩ := hs
    exact False.elim q
  | cont =>
    obtain ⟨_, _, _, q⟩ := hs
    exact False.elim q
/-- f(e), e the caught exception -/
theorem he_oth {Γ : Gam} {k : Nat} {N : List Str} {sc : Sco} {W : WX} {cls : Value} {i : Option Nat} {pos : Pos} (g : Gd Γ k N sc X W) {n f : Str} {j : Nat} {tab : List (Str × Bool)} {np fp : Pos} (hz : Zc cls dd oe) (hf : ∃ vs, oe.data = .fields vs) (hi : i = some j) (h1 : N[j]? = some n) (h2 : visB (sc.names.lookup n) = true) (h3 : (n == ("__debug__" : Str)) = false) (h4 : (n == ("__classdict__" : Str)) = false)
    (hg : giB (sc.names.lookup f) = true) (hd : (f == ("__debug__" : Str)) = false) (ht : ∀ p ∈ tab, (f, p.1, p.2) ∈ Γ.xf) : HEk X a oe cls dd pn i (.Call (.Name f fp) [.Name n np] [] pos) (.oth f tab) := by
  refine he_val rfl ?_
  cases tab with
  | nil =>
    refine ⟨fun _ _ _ => False, ⟨fun pins s σ H Q I z => z.elim⟩, fun x σ H env μ H0 m Q rm en px h => ?_⟩
    simp only [evH, lookT, List.find?_nil, Option.map_none] at h
    exact h.elim
  | cons p0 tab0 =>
    obtain ⟨fa, fd0, y0, C0, m0, kp, _⟩ := g.xf _ _ _ (ht p0 (by simp))
    refine ⟨fun σ H Q => σ[j]? = some (some (.ref a)) ∧ (∀ d, dd = some d → ∃ fs, H d = some (.xd fs)) ∧ ∃ (b : Bool) (fd : FuncData) (y : Str) (C : Addr), cls = .ref C ∧ Binds X.K fd [y] [] ∧ FnZ X.prog X.w X.K X.mg X.base 1 fa fd y C b ∧ ∀ H', Grw H H' → Q (.bl b) H', ⟨fun pins s σ H Q I h => ?_⟩, fun x σ H env μ H0 m Q rm en px h => ?_⟩
    · obtain ⟨hs, hdd, b, fd, y, C, rfl, hb, F, hq⟩ := h
      have pv := pe_var (X := X.suite a ((a, oe) :: pn)) (i := j) (pos := np) (by rw [← g.hN] at h1; exact h1) (g.vis h2) h3 h4
      have pa := pa_cons pv pa_nil (starEach_pl rfl)
      refine wpAny_Call_Name_kw (ld_glob I (g.gl hg) m0 ?_ hd)
      refine PySem.W.callWith_K (h₀ := X.base) I.ok.mod.kin kp (thn (pa.run pos pins s σ H (fun vs H1 => vs = [V.ref a] ∧ H1 = H) I ⟨.ref a, hs, rfl, rfl⟩) fun us s1 hu => ?_) (starEach_pl rfl) rfl
      obtain ⟨vs, H1, I1, r, rfl, rfl⟩ := hu
      refine ⟨I1.kIn, ?_⟩
      obtain ⟨u, rfl, ru⟩ : ∃ u, us = [u] ∧ RelV (.ref a) u := by
        cases r with
        | cons r1 r2 => cases r2; exact ⟨_, rfl, r1⟩
      obtain rfl : u = Value.ref a := ru
      have P1 := I1.pin (a, oe) (List.mem_append_left _ List.mem_cons_self)
      have hpin : L2H.PinOk (X.suite a ((a, oe) :: pn)).stack H1 s1 (a, oe) := ⟨P1.1, P1.2.1, fun hm => (List.mem_cons.mp (I1.stkSub a hm)).elim P1.2.2.1 P1.2.2.2.1, P1.2.2.2.2⟩
      have hr : L2H.RoomH 1 (X.suite a ((a, oe) :: pn)).A := by
        have := (g.room.mono (j := 1) (by have := g.lev; omega))
        exact ⟨this.dp, this.un⟩
      refine wpAny_call (codeAny_mono (F.run (X.suite a ((a, oe) :: pn)).A (X.suite a ((a, oe) :: pn)).stack s1 H1 ⟨[.ref a], []⟩ (a, oe) dd Q hr rfl hpin hf hz hdd I1.env0 (hb s1 [.ref a] I1.kIn rfl) hq) fun r s' hq => ?_)
      cases r with
      | error e => exact False.elim hq
      | ok fl =>
        cases fl with
        | ret u => exact I1.after hq
        | next => exact False.elim hq
        | brk => exact False.elim hq
        | cont => exact False.elim hq
    · simp only [evH] at h
      split at h
      · rename_i b hlt
        obtain ⟨C2, e1, e2, e3⟩ := px.2
        obtain ⟨fa2, fd, y, C, m2, _, hb, m3, F⟩ := g.xf _ _ _ (ht _ (lookT_mem hlt))
        rw [m0] at m2
        cases m2
        rw [e1] at m3
        cases m3
        refine ⟨px.1 j hi, fun d hd' => ?_, b, fd, y, C2, e2, hb, F, fun H' gw => ?_⟩
        · subst hd'
          rcases e3 with ⟨_, e3⟩ | ⟨d2, fvs, e4, e5, e6⟩
          · cases e3
          · cases e4
            exact ⟨fvs, rm.same _ _ e5⟩
        · obtain ⟨H01, rm1, s1⟩ := gw.step rm
          exact h (.bl b) H' H01 m rm1 s1 (rep_bl.mpr rfl)
      · exact h.elim
end
end MI
/-! MI8: defs. -/
namespace MI
open PySem PySem.Spec PyProof.Rows L2

section
variable {K : PySem.W.Frag} {H H0 H' H0' : Hp} {m m' : List Addr} {μ μ0 μ' : Mem}
mutual
theorem rep.cut (p : ∀ (c : Nat) (a : Addr), m[c]? = some a → m'[c]? = some a) : ∀ {d : D} {v v' : V}, rep K H0 m d v → rep K H0' m' d v' → rep K H0' m d v'
  | .t x, _, _, _, h => by
    simp only [rep] at h ⊢
    exact h
  | .ref c, _, _, g, h => by
    simp only [rep] at g h ⊢
    obtain ⟨a, g1, _⟩ := g
    obtain ⟨b, h1, rfl⟩ := h
    rw [p _ _ g1] at h1
    cases h1
    exact ⟨a, g1, rfl⟩
  | .tp ds, _, _, g, h => by
    simp only [rep] at g h ⊢
    obtain ⟨a, vs, _, _, g2⟩ := g
    obtain ⟨b, ws, rfl, h1, h2⟩ := h
    exact ⟨b, ws, rfl, h1, reps.cut p g2 h2⟩
theorem reps.cut (p : ∀ (c : Nat) (a : Addr), m[c]? = some a → m'[c]? = some a) : ∀ {d : List D} {v v' : List V}, reps K H0 m d v → reps K H0' m' d v' → reps K H0' m d v'
  | [], _, _, _, h => by
    simp only [reps] at h ⊢
    exact h
  | d :: ds, _, _, g, h => by
    simp only [reps] at g h ⊢
    obtain ⟨v, r, _, g1, g2⟩ := g
    obtain ⟨w, q, rfl, h1, h2⟩ := h
    exact ⟨w, q, rfl, rep.cut p g1 h1, reps.cut p g2 h2⟩
end
theorem repK.cut {κ : Type} (p : ∀ (c : Nat) (a : Addr), m[c]? = some a → m'[c]? = some a) : ∀ {d : List (κ × D)} {v v' : List (κ × V)}, repK K H0 m d v → repK K H0' m' d v' → repK K H0' m d v'
  | [], _, _, _, h => h
  | (j, d) :: ds, _, _, g, h => by
    simp only [repK] at g h ⊢
    obtain ⟨v, r, _, g1, g2⟩ := g
    obtain ⟨w, q, rfl, h1, h2⟩ := h
    exact ⟨w, q, rfl, rep.cut p g1 h1, repK.cut p g2 h2⟩
theorem rep_isT {d : D} {v : V} (h : isT d = true) (r : rep K H0 m d v) : rep K H0 m' d v := by
  cases d with
  | t x => simp only [rep] at r ⊢; exact r
  | ref c => cases h
  | tp ds => cases h
theorem reps_isT : ∀ {ds : List D} {vs : List V}, ds.all isT = true → reps K H0 m ds vs → reps K H0 m' ds vs
  | [], _, _, r => by simp only [reps] at r ⊢; exact r
  | d :: ds, _, h, r => by
    simp only [List.all_cons, Bool.and_eq_true] at h
    simp only [reps] at r ⊢
    obtain ⟨v, q, e, r1, r2⟩ := r
    exact ⟨v, q, e, rep_isT h.1 r1, reps_isT h.2 r2⟩
theorem repK_isT {κ : Type} : ∀ {ds : List (κ × D)} {vs : List (κ × V)}, (ds.all fun p => isT p.2) = true → repK K H0 m ds vs → repK K H0 m' ds vs
  | [], _, _, r => r
  | (j, d) :: ds, _, h, r => by
    simp only [List.all_cons, Bool.and_eq_true] at h
    simp only [repK] at r ⊢
    obtain ⟨v, q, e, r1, r2⟩ := r
    exact ⟨v, q, e, rep_isT h.1 r1, repK_isT h.2 r2⟩
theorem CellOk.isT {a : Addr} {cl : Cell} (h : cellT cl = true) (r : CellOk K H H0 m a cl) : CellOk K H H0 m' a cl := by
  cases cl with
  | dead => trivial
  | lst ds => obtain ⟨h0, vs, h1, h2⟩ := r; exact ⟨h0, vs, h1, reps_isT h h2⟩
  | dct ds => obtain ⟨h0, vs, h1, h2⟩ := r; exact ⟨h0, vs, h1, repK_isT h h2⟩
  | dcT ds => obtain ⟨h0, vs, h1, h2⟩ := r; exact ⟨h0, vs, h1, repK_isT h h2⟩
  | exn fts => exact r
theorem CellOk.cut (p : ∀ (c : Nat) (a : Addr), m[c]? = some a → m'[c]? = some a) {a : Addr} {cl : Cell} (g : CellOk K H H0 m a cl) (r : CellOk K H' H0' m' a cl) : CellOk K H' H0' m a cl := by
  cases cl with
  | dead => trivial
  | lst ds => obtain ⟨_, vs, _, g2⟩ := g; obtain ⟨h0, ws, h1, h2⟩ := r; exact ⟨h0, ws, h1, g2.cut p h2⟩
  | dct ds => obtain ⟨_, vs, _, g2⟩ := g; obtain ⟨h0, ws, h1, h2⟩ := r; exact ⟨h0, ws, h1, g2.cut p h2⟩
  | dcT ds => obtain ⟨_, vs, _, g2⟩ := g; obtain ⟨h0, ws, h1, h2⟩ := r; exact ⟨h0, ws, h1, g2.cut p h2⟩
  | exn fts => exact r
/-- back to the caller's cells -/
theorem RelM.back (rm0 : RelM K H H0 m μ0) (rm : RelM K H' H0' m' μ') (s : Step H H0 m H' H0' m') (h : OkBack μ0 μ') : RelM K H' H0' m (μ'.take μ0.length) ∧ Step H H0 m H' H0' m := by
  have hle := h.1
  refine ⟨⟨rm.same, by rw [List.length_take, rm0.len]; omega, rm0.nd, fun a ha => rm.ne a (s.mem a ha), fun c a cl h1 h2 => ?_⟩, ⟨s.same, ⟨[], by simp⟩, fun _ h => .inl h, s.frame, s.frz⟩⟩
  have h2' : μ'[c]? = some cl := by
    rw [List.getElem?_take] at h2
    split at h2
    · exact h2
    · cases h2
  have r := rm.cell c a cl (s.at c a h1) h2'
  have hc : c < μ0.length := by rw [← rm0.len]; exact (List.getElem?_eq_some_iff.mp h1).1
  rcases h.2 c hc with e | ⟨cl', e, hT⟩
  · rw [h2'] at e
    exact (rm0.cell c a cl h1 e.symm).cut s.at r
  · rw [h2'] at e
    cases e
    exact r.isT hT
/-- all new cells frozen as they stand -/
def frzH (H' H0' : Hp) (m' : List Addr) (n : Nat) : Hp := open Classical in fun a => if a ∈ m'.drop n then H' a else H0' a
theorem frz_same {n : Nat} (rm : RelM K H' H0' m' μ') : Same H0' (frzH H' H0' m' n) := fun b o e => by
  unfold frzH
  split
  · exact rm.same b o e
  · exact e
theorem mem_drop_of {n c : Nat} {a : Addr} (h : m'[c]? = some a) (hn : n ≤ c) : a ∈ m'.drop n := by
  have : (m'.drop n)[c - n]? = some a := by
    rw [List.getElem?_drop, show n + (c - n) = c by omega]
    exact h
  exact List.mem_of_getElem? this
theorem frzD_ok {n : Nat} (rm : RelM K H' H0' m' μ') : ∀ (k : Nat) {d : D} {t : T} {v : V}, frzD μ' n k d = some t → rep K H0' m' d v → repT K (frzH H' H0' m' n) t v := by
  intro k
  induction k with
  | zero =>
    intro d t v h r
    unfold frzD toT at h
    split at h
    · cases h
      simp only [rep] at r
      exact r.mono (frz_same rm)
    · cases h
  | succ k ih =>
    have ihs : ∀ {ds : List D} {ts : List T} {vs : List V}, ds.mapM (frzD μ' n k) = some ts → reps K H0' m' ds vs → repTs K (frzH H' H0' m' n) ts vs := by
      intro ds
      induction ds with
      | nil =>
        intro ts vs h r
        simp only [List.mapM_nil, Option.pure_def, Option.some.injEq] at h
        subst h
        simp only [reps] at r
        simp only [repTs, r]
      | cons d ds ihd =>
        intro ts vs h r
        simp only [List.mapM_cons, Option.bind_eq_bind, Option.bind_eq_some_iff, Option.pure_def, Option.some.injEq] at h
        obtain ⟨x, h1, xs, h2, rfl⟩ := h
        simp only [reps] at r
        obtain ⟨w, q, rfl, r1, r2⟩ := r
        simp only [repTs]
        exact ⟨w, q, rfl, ih h1 r1, ihd h2 r2⟩
    have ihK : ∀ {ds : List (Key × D)} {ts : List (Key × T)} {vs : List (Key × V)}, (ds.mapM fun p => (frzD μ' n k p.2).map fun x => (p.1, x)) = some ts → repK K H0' m' ds vs → repTK K (frzH H' H0' m' n) ts vs := by
      intro ds
      induction ds with
      | nil =>
        intro ts vs h r
        simp only [List.mapM_nil, Option.pure_def, Option.some.injEq] at h
        subst h
        simp only [repK] at r
        simp only [repTK, r]
      | cons d ds ihd =>
        intro ts vs h r
        simp only [List.mapM_cons, Option.bind_eq_bind, Option.bind_eq_some_iff, Option.pure_def, Option.some.injEq, Option.map_eq_some_iff] at h
        obtain ⟨x, ⟨y, h1, rfl⟩, xs, h2, rfl⟩ := h
        simp only [repK] at r
        obtain ⟨w, q, rfl, r1, r2⟩ := r
        simp only [repTK]
        exact ⟨w, q, rfl, ih h1 r1, ihd h2 r2⟩
    have ihKT : ∀ {ds : List (List Key × D)} {ts : List (List Key × T)} {vs : List (List Key × V)}, (ds.mapM fun p => (frzD μ' n k p.2).map fun x => (p.1, x)) = some ts → repK K H0' m' ds vs → repTKT K (frzH H' H0' m' n) ts vs := by
      intro ds
      induction ds with
      | nil =>
        intro ts vs h r
        simp only [List.mapM_nil, Option.pure_def, Option.some.injEq] at h
        subst h
        simp only [repK] at r
        simp only [repTKT, r]
      | cons d ds ihd =>
        intro ts vs h r
        simp only [List.mapM_cons, Option.bind_eq_bind, Option.bind_eq_some_iff, Option.pure_def, Option.some.injEq, Option.map_eq_some_iff] at h
        obtain ⟨x, ⟨y, h1, rfl⟩, xs, h2, rfl⟩ := h
        simp only [repK] at r
        obtain ⟨w, q, rfl, r1, r2⟩ := r
        simp only [repTKT]
        exact ⟨w, q, rfl, ih h1 r1, ihd h2 r2⟩
    intro d t v h r
    unfold frzD at h
    split at h
    · cases h
      simp only [rep] at r
      exact r.mono (frz_same rm)
    · obtain ⟨ts, h1, rfl⟩ := Option.map_eq_some_iff.mp h
      simp only [rep] at r
      obtain ⟨a, vs, rfl, r1, r2⟩ := r
      simp only [repT]
      exact ⟨a, vs, rfl, frz_same rm _ _ r1, ihs h1 r2⟩
    · rename_i c
      simp only [rep] at r
      obtain ⟨a, ha, rfl⟩ := r
      split at h
      · rename_i hn
        have hm := mem_drop_of ha hn
        have fz : frzH H' H0' m' n a = H' a := if_pos hm
        split at h
        · rename_i ds hc
          obtain ⟨ts, h1, rfl⟩ := Option.map_eq_some_iff.mp h
          obtain ⟨_, vs, r1, r2⟩ := rm.ref ha hc
          simp only [repT]
          exact ⟨a, vs, rfl, by rw [fz]; exact r1, ihs h1 r2⟩
        · rename_i ds hc
          obtain ⟨ts, h1, rfl⟩ := Option.map_eq_some_iff.mp h
          obtain ⟨_, vs, r1, r2⟩ := rm.ref ha hc
          simp only [repT]
          exact ⟨a, vs, rfl, by rw [fz]; exact r1, ihK h1 r2⟩
        · rename_i ds hc
          obtain ⟨ts, h1, rfl⟩ := Option.map_eq_some_iff.mp h
          obtain ⟨_, vs, r1, r2⟩ := rm.ref ha hc
          simp only [repT]
          exact ⟨a, vs, rfl, by rw [fz]; exact r1, ihKT h1 r2⟩
        · cases h
      · cases h
theorem leave_ok {md : Md} {d : D} {v : V} {Q : VK} {E : Exn → Mem → Prop} (rm0 : RelM K H H0 m μ0) (rm : RelM K H' H0' m' μ') (s : Step H H0 m H' H0' m') (r : rep K H0' m' d v) (h : Sat (leave md μ0 d μ') (PostE K Q H H0 m) E) : Q v H' := by
  unfold leave at h
  split at h
  · rename_i hc
    obtain ⟨rb, sb⟩ := rm0.back rm s hc
    have hle : μ0.length ≤ μ'.length := by
      have := rb.len
      rw [List.length_take, rm0.len] at this
      omega
    cases md with
    | frz =>
      simp only at h
      split at h
      · rename_i t ht
        have h : PostE K Q H H0 m (.t t) (μ'.take μ0.length) := h
        refine h v H' (frzH H' H0' m' μ0.length) m ⟨fun b o e => ?_, rb.len, rb.nd, rb.ne, fun c a cl h1 h2 => ?_⟩ ⟨sb.same.trans (frz_same rm), sb.pre, sb.fresh, sb.frame, fun a ha => ?_⟩ ?_
        · unfold frzH at e
          split at e
          · exact e
          · exact rm.same b o e
        · refine (rb.cell c a cl h1 h2).mono (frz_same rm) (fun _ _ z => z) (fun _ z => z) fun z => ?_
          have hn : a ∉ m'.drop μ0.length := fun hm => by
            obtain ⟨j, hj⟩ := List.mem_iff_getElem?.mp hm
            rw [List.getElem?_drop] at hj
            have h1' := s.at c a h1
            have hlt : c < μ0.length := by rw [← rm0.len]; exact (List.getElem?_eq_some_iff.mp h1).1
            have := nd_ix rm.nd h1' hj
            omega
          show (if a ∈ m'.drop μ0.length then H' a else H0' a) = none
          rw [if_neg hn]; exact z
        · unfold frzH at ha
          split at ha
          · rename_i hm
            rcases s.fresh a (List.mem_of_mem_drop hm) with z | z
            · exact .inr (.inl z)
            · exact .inr (.inr z)
          · exact sb.frz a ha
        · simp only [rep]
          exact frzD_ok rm 4 ht r
      · exact h.elim
    | cell =>
      simp only at h
      split at h
      · rename_i c
        split at h
        · rename_i hn
          split at h
          · rename_i cl hcl
            split at h
            · rename_i hT
              have h : PostE K Q H H0 m (.ref μ0.length) (μ'.take μ0.length ++ [cl]) := h
              simp only [rep] at r
              obtain ⟨a, ha, rfl⟩ := r
              have hl : m.length = (μ'.take μ0.length).length := rb.len
              have hna : a ∉ m := fun hm => by
                obtain ⟨j, hj⟩ := List.mem_iff_getElem?.mp hm
                have hlt : j < μ0.length := by rw [← rm0.len]; exact (List.getElem?_eq_some_iff.mp hj).1
                have := nd_ix rm.nd (s.at j a hj) ha
                omega
              have at_ : ∀ (c : Nat) (b : Addr), m[c]? = some b → (m ++ [a])[c]? = some b := fun c b z => by
                rw [List.getElem?_append_left (List.getElem?_eq_some_iff.mp z).1]; exact z
              refine h (.ref a) H' H0' (m ++ [a]) ⟨rb.same, by simp [rb.len], ?_, fun b hb => ?_, fun j b cl' h1 h2 => ?_⟩ ⟨sb.same, ⟨[a], rfl⟩, fun b hb => ?_, sb.frame, sb.frz⟩ ?_
              · rw [List.nodup_append]
                exact ⟨rb.nd, by simp, fun x hx b hb => by
                  have e : b = a := by simpa using hb
                  rintro rfl
                  exact hna (by rw [← e]; exact hx)⟩
              · rcases List.mem_append.mp hb with hb | hb
                · exact rb.ne b hb
                · have e : b = a := by simpa using hb
                  subst e
                  exact rm.ne b (List.mem_of_getElem? ha)
              · by_cases hj : j < m.length
                · rw [List.getElem?_append_left hj] at h1
                  rw [List.getElem?_append_left (by rw [← hl]; exact hj)] at h2
                  exact (rb.cell j b cl' h1 h2).mono (Same.refl _) at_ (fun _ z => z) (fun z => z)
                · rw [List.getElem?_append_right (by omega)] at h1
                  rw [List.getElem?_append_right (by rw [← hl]; omega)] at h2
                  have e : j - m.length = 0 := by
                    by_cases z : j - m.length = 0
                    · exact z
                    · rw [List.getElem?_eq_none (by simp; omega)] at h1; cases h1
                  rw [e] at h1
                  rw [← hl, e] at h2
                  simp only [List.getElem?_cons_zero, Option.some.injEq] at h1 h2
                  subst h1; subst h2
                  exact (rm.ref ha hcl).isT hT
              · rcases List.mem_append.mp hb with hb | hb
                · exact .inl hb
                · have e : b = a := by simpa using hb
                  subst e
                  exact s.fresh b (List.mem_of_getElem? ha)
              · simp only [rep]
                exact ⟨a, by rw [show μ0.length = m.length from rm0.len.symm]; simp, rfl⟩
            · exact h.elim
          · exact h.elim
        · exact h.elim
      · exact h.elim
    | keep => exact h v H' H0' m' rm s r
  · exact h.elim
where
  nd_ix {N : List Addr} (hN : N.Nodup) {i j : Nat} {x : Addr} (a : N[i]? = some x) (b : N[j]? = some x) : i = j := by
    obtain ⟨h1, e1⟩ := List.getElem?_eq_some_iff.mp a
    obtain ⟨h2, e2⟩ := List.getElem?_eq_some_iff.mp b
    exact (List.getElem_inj hN).mp (e1.trans e2.symm)
end
/-! ### a def keeps what callI tells -/
structure Around0 (Γ : Gam) (P : Program) (w : World) (K : PySem.W.Frag) (mg : Str → Option Value) (base : Heap) (k : Nat) : Prop where
  call : ∀ f nm, Γ.fn f = some nm → ∃ (a : Addr) (fd : FuncData) (ps : List Str) (c : Bool), (c = true → Γ.wk = true) ∧ mg nm = some (.ref a) ∧ PySem.W.keepIn K (.ref a) = true ∧ Binds K fd ps [] ∧ FnOk P w K mg base (CXB c P w) k a fd ps (spF mg K Γ.F f)
  calls : ∀ f nm, Γ.fns f = some nm → ∃ (a : Addr) (fd : FuncData) (ps : List Str) (c : Bool), (c = true → false = true) ∧ mg nm = some (.ref a) ∧ PySem.W.keepIn K (.ref a) = true ∧ Binds K fd ps [] ∧ FnOk P w K mg base (CXB c P w) k a fd ps (spF mg K Γ.F f)
  blt : ∀ x ∈ Γ.blts, mg x = none
  glo : ∀ x t, (x, t) ∈ Γ.glo → ∃ u, mg x = some u ∧ relG t u
  cls : ∀ c ∈ Γ.cls, ClsX P w K mg base c
  sub : ∀ c d b, (c, d, b) ∈ Γ.sub → SubX K mg c d b
  xf : ∀ f c b, (f, c, b) ∈ Γ.xf → XfX P w K mg base f c b
def defSco (st : Stmt) : Sco := { defScope st with cf := fun _ => true, top := true }
theorem reps_some {K : PySem.W.Frag} {H0 : Hp} {m : List Addr} {ds : List D} {vs : List V} (r : reps K H0 m ds vs) (n : Nat) : EnvOk K H0 m (ds.map some ++ List.replicate n none) (vs.map some ++ List.replicate n none) := by
  have hl := reps_len r
  refine ⟨by simp [hl], fun i d e => ?_⟩
  by_cases hi : i < ds.length
  · rw [List.getElem?_append_left (by simpa using hi), List.getElem?_map] at e
    rw [List.getElem?_append_left (by simp [← hl, hi]), List.getElem?_map]
    cases q : ds[i]? with
    | none => rw [q] at e; cases e
    | some d' =>
      rw [q] at e
      cases e
      obtain ⟨v, v1, v2⟩ := reps_get r q
      exact ⟨v, by rw [v1]; rfl, v2⟩
  · rw [List.getElem?_append_right (by simp; omega), List.getElem?_replicate] at e
    split at e <;> cases e
theorem fn_callI {defs : Nat → Option Def} {Γ : Gam} {P : Program} {w : World} {K : PySem.W.Frag} {mg : Str → Option Value} {base : Heap} {k l f : Nat} {x qual : Str} {st : Stmt} {a : Addr} {fd : FuncData} {N ps : List Str} {d : Def}
    (hlev : 2 ≤ l) (hF : Γ.F = callI defs k) (F : L2.Fun K x qual st a fd) (S : FnScope N ps (defScope st)) (hd : defs f = some d) (har : d.ar = ps.length) (hn : d.n = N.length) (A0 : Around0 Γ P w K mg base l) (hb : VSs Γ l N (defSco st) (defBody st) d.body) :
    FnOk P w K mg base (CXB Γ.wk P w) (l + 1) a fd ps (spF mg K (callI defs (k + 1)) f) := by
  obtain ⟨oc, od, kV, doc, pm, an, cdv, ct, osl, rfl, lk, hcd⟩ := F.ex
  have hlen : ∀ vs H Q E, spF mg K (callI defs (k + 1)) f vs H Q E → vs.length = ps.length := fun vs H Q E ⟨ds, μ, H0, m, rm, r, h⟩ => by
    unfold callI at h
    rw [hd] at h
    simp only at h
    split at h
    · rename_i e
      rw [← reps_len r, e, har]
    · exact h.elim
  refine fn_of lk hcd S hlen fun A outer s H vs Q E hr hsp => ?_
  have hl := hlen _ _ _ _ hsp
  obtain ⟨ds, μ, H0, m, rm, r, h⟩ := hsp
  unfold callI at h
  rw [hd] at h
  simp only at h
  have hlds : ds.length = d.ar := by rw [reps_len r, hl, har]
  rw [if_pos hlds] at h
  have tkB : ∀ b, TakesB b (cxOf (CXB b P w) P w K mg base N qual (defScope st) a cdv A outer s H E) (fun cls d _ H => E cls d H) := fun b => by
    cases b
    · exact L2N.takes_of rfl rfl rfl rfl
    · exact L2.takes_of rfl rfl rfl rfl
  have g : Gd Γ l N (defSco st) (cxOf (CXB Γ.wk P w) P w K mg base N qual (defScope st) a cdv A outer s H E) (fun cls d _ H => E cls d H) :=
    { hN := rfl
      nd := S.nd
      hsc := rfl
      kind := S.kind
      calm := rfl
      room := hr
      tk := tkB Γ.wk
      po := passes_of rfl
      fn := fun _ _ => rfl
      call := fun f nm e => ⟨A0.call f nm e⟩
      calls := fun f nm e => ⟨A0.calls f nm e⟩
      blt := A0.blt
      glo := A0.glo
      lev := hlev
      cls := A0.cls
      sub := A0.sub
      xf := A0.xf
      stk := fun _ => ⟨rfl, rfl⟩
      pa := fun _ => L2H.passesAt_of rfl }
  obtain ⟨t, pt, at_⟩ := hb.run _ _ g
  refine ⟨t, pt, at_ (L2.start N vs) H (ds.map some ++ List.replicate (d.n - d.ar) none) μ H0 m _ rm ?_ ?_⟩
  · have e : L2.start N vs = vs.map some ++ List.replicate (d.n - d.ar) none := by
      unfold L2.start
      rw [hn, har, hl]
    rw [e]
    exact reps_some r _
  · rw [hF]
    cases eb : evSs (callI defs k) d.body (ds.map some ++ List.replicate (d.n - d.ar) none) μ with
    | none => rw [eb] at h; exact h.elim
    | some p =>
      obtain ⟨o, μ'⟩ := p
      rw [eb] at h
      intro H' H0' m' rm' s'
      cases o with
      | rt v0 => exact fun v rv => leave_ok rm rm' s' rv h
      | nx env' => exact fun σ' _ => leave_ok rm rm' s' (rep_non.mpr rfl) h
      | bk env' => exact h.elim
      | ct env' => exact h.elim
      | ex x env' =>
        intro σ' cls dd _ ex
        simp only at h
        unfold leaveX at h
        split at h
        · rename_i hc
          obtain ⟨rb, sb⟩ := rm.back rm' s' hc
          have h : PostX mg K E H H0 m x (μ'.take μ.length) := h
          exact h cls dd H' H0' m rb sb ex
        · exact h.elim
theorem fn_zero {P : Program} {w : World} {K : PySem.W.Frag} {mg : Str → Option Value} {base : Heap} {defs : Nat → Option Def} {f : Nat} {a : Addr} {fd : FuncData} {ps : List Str} {l : Nat} {CX : CXT} : FnOk P w K mg base CX l a fd ps (spF mg K (callI defs 0) f) :=
  ⟨fun vs H Q E ⟨_, _, _, _, _, _, h⟩ => h.elim, fun A outer s H args us vs Q E _ _ _ _ ⟨_, _, _, _, _, _, h⟩ => h.elim⟩
end MI
/-! MI9: the check of the small text against the model's. -/
namespace MI
open PySem PySem.Spec PyProof.Rows L2

def eqS : T → T → Bool
  | .non, .non => true
  | .bl a, .bl b => a == b
  | .int a, .int b => decide (a = b)
  | .str a, .str b => decide (a = b)
  | _, _ => false
theorem eqS_eq {a b : T} (h : eqS a b = true) : a = b := by
  unfold eqS at h
  split at h <;> first | rfl | (cases h; done) | (simp at h; rw [h])
def gloB (l : List (Str × T)) (x : Str) (t : T) : Bool := l.any fun p => decide (p.1 = x) && eqS p.2 t
theorem gloB_mem {l : List (Str × T)} {x : Str} {t : T} (h : gloB l x t = true) : (x, t) ∈ l := by
  obtain ⟨p, hp, q⟩ := List.any_eq_true.mp h
  simp only [Bool.and_eq_true, decide_eq_true_eq] at q
  obtain ⟨rfl, q⟩ := q
  rw [← eqS_eq q]
  exact hp
def clsB (l : List ClsI) (c : Str) (fs : List Str) (ini : Bool) : Bool := l.any fun x => decide (x.nm = c) && decide (x.fs = fs) && (x.ini == ini)
theorem clsB_mem {l : List ClsI} {c : Str} {fs : List Str} {ini : Bool} (h : clsB l c fs ini = true) : (⟨c, fs, ini⟩ : ClsI) ∈ l := by
  unfold clsB at h
  rw [List.any_eq_true] at h
  obtain ⟨⟨a, b, d⟩, hm, h⟩ := h
  simp only [Bool.and_eq_true, decide_eq_true_eq, beq_iff_eq] at h
  obtain ⟨⟨rfl, rfl⟩, rfl⟩ := h
  exact hm
def nmOk (x : Str) : Bool := !(x == ("__debug__" : Str)) && !(x == ("__classdict__" : Str))
variable (Γ : Sig) (N : List Str)
mutual
def chkG (sc : Sco) : Tg → Expr → Bool
  | .nm i, .Name x _ => decide (N[i]? = some x) && locS sc x
  | .tp ts, .Tuple xs _ _ => chkGs sc ts xs
  | _, _ => false
def chkGs (sc : Sco) : List Tg → List Expr → Bool
  | [], [] => true
  | t :: ts, x :: xs => chkG sc t x && chkGs sc ts xs
  | _, _ => false
end
mutual
def chkE (sc : Sco) : E → Expr → Bool
  | .var i, xx => match xx with
    | .Name x _ => decide (N[i]? = some x) && visB (sc.names.lookup x) && nmOk x
    | _ => false
  | .cst t, xx => match xx with
    | .Constant c _ _ => cstB c t
    | _ => false
  | .glo y t, xx => match xx with
    | .Name x _ => decide (x = y) && giB (sc.names.lookup x) && gloB Γ.glo x t && nmOk x
    | _ => false
  | .bin op a b, xx => match xx with
    | .BinOp x op' y _ => decide (opOf op = op') && chkE sc a x && chkE sc b y
    | _ => false
  | .neg a, xx => match xx with
    | .UnaryOp .USub x _ => chkE sc a x
    | _ => false
  | .cmp op a b, xx => match xx with
    | .Compare x [op'] [y] _ => decide (copOf op = op') && plX y && chkE sc a x && chkE sc b y
    | _ => false
  | .chn p q a b c, xx => match xx with
    | .Compare x [p', q'] [y, z] _ => decide (copOf p = p') && decide (copOf q = q') && plX z && chkE sc a x && chkE sc b y && chkE sc c z
    | _ => false
  | .and a b, xx => match xx with
    | .BoolOp .And (x :: y :: rest) pos => chkE sc a x && (match rest with | [] => chkE sc b y | _ :: _ => chkE sc b (.BoolOp .And (y :: rest) pos))
    | _ => false
  | .or a b, xx => match xx with
    | .BoolOp .Or (x :: y :: rest) pos => chkE sc a x && (match rest with | [] => chkE sc b y | _ :: _ => chkE sc b (.BoolOp .Or (y :: rest) pos))
    | _ => false
  | .not a, xx => match xx with
    | .UnaryOp .Not x _ => chkE sc a x
    | _ => false
  | .tup es, xx => match xx with
    | .Tuple xs _ _ => chkEs sc es xs
    | _ => false
  | .lst _ es, xx => match xx with
    | .List xs _ => chkEs sc es xs
    | _ => false
  | .dnew _, xx => match xx with
    | .Dict [] [] _ => true
    | _ => false
  | .dd1 a b, xx => match xx with
    | .Dict [some x] [y] _ => chkE sc a x && chkE sc b y
    | _ => false
  | .ix a b, xx => match xx with
    | .Subscript x y _ => plX y && chkE sc a x && chkE sc b y
    | _ => false
  | .slc _ a lo hi, xx => match xx with
    | .Subscript x (.Slice l h none _) _ => chkE sc a x && chkEo sc lo l && chkEo sc hi h
    | _ => false
  | .call f es, xx => match xx with
    | .Call (.Name x _) xs [] _ => decide (Γ.fn f = some x) && giB (sc.names.lookup x) && nmOk x && chkEs sc es xs
    | _ => false
  | .bfn _ b es, xx => match xx with
    | .Call (.Name x _) (x0 :: xs) [] _ => decide (x = (bfnN b).1) && decide (x ∈ Γ.blts) && giB (sc.names.lookup x) && chkEs sc es (x0 :: xs)
    | _ => false
  | .srev _ a, xx => match xx with
    | .Call (.Name x _) [y] [⟨some nm, .Constant (.bool true) _ _, _⟩] _ => decide (x = ("sorted" : Str)) && decide (nm = Str.ofString "reverse") && decide (("sorted" : Str) ∈ Γ.blts) && giB (sc.names.lookup ("sorted" : Str)) && plX y && chkE sc a y
    | _ => false
  | .isi a [kn], xx => match xx with
    | .Call (.Name x _) [y, .Name z _] [] _ => decide (x = ("isinstance" : Str)) && decide (z = Str.ofString (tyN kn)) && plX y && isK kn && decide (("isinstance" : Str) ∈ Γ.blts) && decide (Str.ofString (tyN kn) ∈ Γ.blts) &&
        giB (sc.names.lookup ("isinstance" : Str)) && giB (sc.names.lookup (Str.ofString (tyN kn))) && chkE sc a y
    | _ => false
  | .mth m o es, xx => match xx with
    | .Call (.Attribute y nm apos) xs [] pos => decide (nm = (mthI m).1) && rcvX y && (apos.endLine == pos.line) && decide (xs.length < 30) && chkE sc o y && chkEs sc es xs
    | _ => false
  | .new c fs es, xx => match xx with
    | .Call (.Name x _) (y :: ys) [] _ => decide (x = c) && decide (fs.length ≤ 9) && clsB Γ.cls c fs true && giB (sc.names.lookup c) && nmOk c && chkEs sc es (y :: ys)
    | _ => false
  | .fldv i f, xx => match xx with
    | .Attribute (.Name x _) g _ => decide (g = f) && decide (N[i]? = some x) && visB (sc.names.lookup x) && nmOk x
    | _ => false
  | .comp _ own tg it ifs e, xx => match xx with
    | .ListComp elt [⟨t, iter, cs, 0⟩] scope _ => blkC N sc.toScope scope own && tgIn (own.map (·.2)) tg && chkI sc it t iter && chkG N (blkSc sc scope) tg t && chkC (blkSc sc scope) ifs cs && chkE (blkSc sc scope) e elt
    | _ => false
  | _, _ => false
def chkEs (sc : Sco) : Es → List Expr → Bool
  | .nil, xx => match xx with
    | [] => true
    | _ => false
  | .cons e es, xx => match xx with
    | x :: xs => plX x && chkE sc e x && chkEs sc es xs
    | _ => false
def chkEo (sc : Sco) : Eo → Option Expr → Bool
  | .none, xx => match xx with
    | none => true
    | _ => false
  | .some e, xx => match xx with
    | some x => chkE sc e x
    | _ => false
def chkC (sc : Sco) : Es → List Expr → Bool
  | .nil, xx => match xx with
    | [] => true
    | _ => false
  | .cons e .nil, xx => match xx with
    | [x] => chkE sc e x
    | _ => false
  | _, _ => false
def chkI (sc : Sco) : It → Expr → Expr → Bool
  | .val e, _, x => plX x && chkE sc e x
  | .rng1 a, tt, xx => match tt, xx with
    | _, .Call (.Name f _) [x] [] _ => decide (f = ("range" : Str)) && decide (("range" : Str) ∈ Γ.blts) && giB (sc.names.lookup ("range" : Str)) && plX x && chkE sc a x
    | _, _ => false
  | .rng2 a b, tt, xx => match tt, xx with
    | _, .Call (.Name f _) [x, y] [] _ => decide (f = ("range" : Str)) && decide (("range" : Str) ∈ Γ.blts) && giB (sc.names.lookup ("range" : Str)) && plX x && plX y && chkE sc a x && chkE sc b y
    | _, _ => false
  | .enm a, tt, xx => match tt, xx with
    | .Tuple _ _ _, .Call (.Name f _) [x] [] _ => decide (f = ("enumerate" : Str)) && decide (("enumerate" : Str) ∈ Γ.blts) && giB (sc.names.lookup ("enumerate" : Str)) && plX x && chkE sc a x
    | _, _ => false
  | .zip a b, tt, xx => match tt, xx with
    | .Tuple _ _ _, .Call (.Name f _) [x, y] [] _ => decide (f = ("zip" : Str)) && decide (("zip" : Str) ∈ Γ.blts) && giB (sc.names.lookup ("zip" : Str)) && plX x && plX y && chkE sc a x && chkE sc b y
    | _, _ => false
  | .rev a, tt, xx => match tt, xx with
    | _, .Call (.Name f _) [x] [] _ => decide (f = ("reversed" : Str)) && decide (("reversed" : Str) ∈ Γ.blts) && giB (sc.names.lookup ("reversed" : Str)) && plX x && chkE sc a x
    | _, _ => false
end
/-! ### except suites: n is the clause's name, i its slot -/
def fldB (l : List ClsI) (f : Str) (cs : List Str) : Bool := cs.all fun c => l.any fun x => decide (x.nm = c) && decide (f ∈ x.fs)
theorem fldB_ok {l : List ClsI} {f : Str} {cs : List Str} (h : fldB l f cs = true) : ∀ c ∈ cs, ∃ ci ∈ l, ci.nm = c ∧ f ∈ ci.fs := fun c hc => by
  unfold fldB at h
  rw [List.all_eq_true] at h
  have h := h c hc
  rw [List.any_eq_true] at h
  obtain ⟨ci, h1, h2⟩ := h
  simp only [Bool.and_eq_true, decide_eq_true_eq] at h2
  exact ⟨ci, h1, h2.1, h2.2⟩
def tabB (l : List (Str × Str × Bool)) (c : Str) (tab : List (Str × Bool)) : Bool := tab.all fun p => decide ((p.1, c, p.2) ∈ l)
theorem tabB_ok {l : List (Str × Str × Bool)} {c : Str} {tab : List (Str × Bool)} (h : tabB l c tab = true) : ∀ p ∈ tab, (p.1, c, p.2) ∈ l := fun p hp => by
  unfold tabB at h
  rw [List.all_eq_true] at h
  simpa using h p hp
mutual
def chkH (sc : Sco) (n : Option (Str × Nat)) : HE → Expr → Bool
  | .var j, xx => match xx with
    | .Name x _ => decide (N[j]? = some x) && visB (sc.names.lookup x) && nmOk x
    | _ => false
  | .cst t, xx => match xx with
    | .Constant c _ _ => cstB c t
    | _ => false
  | .fld f cs, xx => match xx, n with
    | .Attribute (.Name x _) g _, some (y, j) => decide (x = y) && decide (g = f) && decide (N[j]? = some x) && visB (sc.names.lookup x) && nmOk x && fldB Γ.cls f cs
    | _, _ => false
  | .isi c tab, xx => match xx, n with
    | .Call (.Name f _) [.Name x _, .Name d _] [] _, some (y, j) => decide (f = ("isinstance" : Str)) && decide (x = y) && decide (d = c) && decide (N[j]? = some x) && visB (sc.names.lookup x) && nmOk x && decide (("isinstance" : Str) ∈ Γ.blts) &&
        giB (sc.names.lookup ("isinstance" : Str)) && giB (sc.names.lookup c) && nmOk c && tabB Γ.sub c tab
    | _, _ => false
  | .oth f tab, xx => match xx, n with
    | .Call (.Name g _) [.Name x _] [] _, some (y, j) => decide (g = f) && decide (x = y) && decide (N[j]? = some x) && visB (sc.names.lookup x) && nmOk x && giB (sc.names.lookup f) && nmOk f && decide (∀ p ∈ tab, (f, p.1, p.2) ∈ Γ.xf)
    | _, _ => false
  | .cmp op a b, xx => match xx with
    | .Compare x [op'] [y] _ => decide (copOf op = op') && plX y && chkH sc n a x && chkH sc n b y
    | _ => false
  | .and a b, xx => match xx with
    | .BoolOp .And [x, y] _ => chkH sc n a x && chkH sc n b y
    | _ => false
  | .or a b, xx => match xx with
    | .BoolOp .Or [x, y] _ => chkH sc n a x && chkH sc n b y
    | _ => false
  | .or3 a b c, xx => match xx with
    | .BoolOp .Or [x, y, z] _ => chkH sc n a x && chkH sc n b y && chkH sc n c z
    | _ => false
  | .not a, xx => match xx with
    | .UnaryOp .Not x _ => chkH sc n a x
    | _ => false
  | .tup es, xx => match xx with
    | .Tuple xs _ _ => chkHs sc n es xs
    | _ => false
  | .lst es, xx => match xx with
    | .List xs _ => chkHs sc n es xs
    | _ => false
def chkHs (sc : Sco) (n : Option (Str × Nat)) : HEs → List Expr → Bool
  | .nil, xx => match xx with
    | [] => true
    | _ => false
  | .cons e es, xx => match xx with
    | x :: xs => plX x && chkH sc n e x && chkHs sc n es xs
    | _ => false
end
mutual
def chkHS (sc : Sco) (n : Option (Str × Nat)) : HS → Stmt → Bool
  | .ret e, xx => match xx with
    | .Return (some x) _ => chkH Γ N sc n e x
    | _ => false
  | .asg j e, xx => match xx with
    | .Assign [.Name nm _] x _ => plX x && notLc x && decide (N[j]? = some nm) && locS sc nm && decide (n.map (·.2) ≠ some j) && chkH Γ N sc n e x
    | _ => false
  | .ife c a b, xx => match xx with
    | .If x xa xb _ => chkH Γ N sc n c x && chkHSs sc n a xa && chkHSs sc n b xb
    | _ => false
  | .pss, xx => match xx with
    | .Pass _ => true
    | _ => false
  | .unk, _ => true
def chkHSs (sc : Sco) (n : Option (Str × Nat)) : HSs → List Stmt → Bool
  | .nil, xx => match xx with
    | [] => true
    | _ => false
  | .cons s ss, xx => match xx with
    | x :: xs => chkHS sc n s x && chkHSs sc n ss xs
    | _ => false
end
mutual
def chkS (sc : Sco) : S → Stmt → Bool
  | .asg tg e, xx => match xx with
    | .Assign [t] x _ => match tg, e, t, x with
      | .nm i, .comp _ own tg it ifs e, .Name nm p, .ListComp elt [⟨t, iter, cs, 0⟩] scope lpos => decide (N[i]? = some nm) && blkC N sc.toScope scope own && tgIn (own.map (·.2)) tg && chkI Γ N sc it t iter && chkG N (blkSc sc scope) tg t && chkC Γ N (blkSc sc scope) ifs cs && chkE Γ N (blkSc sc scope) e elt &&
          ((decide (sc.names.lookup nm = some .local) && (p.line == lpos.line) && !(scope.names.any fun (n, k) => n == nm && (k == .local || k == .cell))) || (locS sc nm && decide (sc.names.lookup nm ≠ some .local)))
      | .nm i, e, .Name nm _, x => plX x && notLc x && decide (N[i]? = some nm) && locS sc nm && chkE Γ N sc e x
      | tg, e, t, x => plX x && notLc x && notTL x && chkG N sc tg t && chkE Γ N sc e x
    | _ => false
  | .setx o i e, xx => match xx with
    | .Assign [.Subscript y z _] x _ => plX x && notLc x && plX z && chkE Γ N sc o y && chkE Γ N sc i z && chkE Γ N sc e x
    | _ => false
  | .xpr e, xx => match xx with
    | .Expr x _ => plX x && notLc x && chkE Γ N sc e x
    | _ => false
  | .ret e, xx => match xx with
    | .Return (some x) _ => chkE Γ N sc e x
    | _ => false
  | .retN, xx => match xx with
    | .Return none _ => true
    | _ => false
  | .ife c a b, xx => match xx with
    | .If x y z _ => chkE Γ N sc c x && chkSs sc a y && chkSs sc b z
    | _ => false
  | .for tg it b, xx => match xx with
    | .For t iter body [] _ => chkI Γ N sc it t iter && chkG N sc tg t && chkSs sc b body
    | _ => false
  | .whl _ c b, xx => match xx with
    | .While x body [] _ => chkE Γ N sc c x && chkSs sc b body
    | _ => false
  | .brk, xx => match xx with
    | .Break _ => true
    | _ => false
  | .cnt, xx => match xx with
    | .Continue _ => true
    | _ => false
  | .pss, xx => match xx with
    | .Pass _ => true
    | _ => false
  | .unk, _ => true
  | .rse c fs es, xx => match xx with
    | .Raise (some (.Call (.Name x _) (y :: ys) [] _)) none _ => decide (x = c) && decide (fs.length ≤ 9) && clsB Γ.cls c fs true && giB (sc.names.lookup c) && nmOk c && chkEs Γ N sc es (y :: ys)
    | _ => false
  | .rsm c m, xx => match xx with
    | .Raise (some (.Call (.Name x _) [.Constant (.str m') _ _] [] _)) none _ => decide (x = c) && decide (m' = m) && clsB Γ.cls c [] false && giB (sc.names.lookup c) && nmOk c
    | _ => false
  | .tryx b c tab i h, xx => match xx with
    | .Try body [.ExceptHandler (some (.Name x _)) y (s0 :: suite) _] [] [] _ => decide (x = c) && sc.top && giB (sc.names.lookup c) && nmOk c && tabB Γ.sub c tab && !tab.isEmpty && chkSs { sc with top := false } b body && (match y, i with
      | some n, some j => decide (N[j]? = some n) && decide (sc.names.lookup n = some .local) && chkHSs Γ N sc (some (n, j)) h (s0 :: suite)
      | none, none => chkHSs Γ N sc none h (s0 :: suite)
      | _, _ => false)
    | _ => false
  | .tryr e c tab c2 m, xx => match xx with
    | .Try [.Expr x _] [.ExceptHandler (some (.Name z _)) none [.Raise (some (.Call (.Name z2 _) [.Constant (.str m') _ _] [] _)) (some (.Constant .none _ _)) _] _] [] [] _ =>
        decide (z = c) && sc.top && Γ.wk && giB (sc.names.lookup c) && nmOk c && tabB Γ.sub c tab && !tab.isEmpty && plX x && notLc x && chkE { Γ with fn := Γ.fns, wk := false } N { sc with top := false } e x && decide (z2 = c2) && decide (m' = m) && clsB Γ.cls c2 [] false && giB (sc.names.lookup c2) && nmOk c2
    | _ => false
def chkSs (sc : Sco) : Ss → List Stmt → Bool
  | .nil, xx => match xx with
    | [] => true
    | _ => false
  | .cons s ss, xx => match xx with
    | x :: xs => chkS sc s x && chkSs sc ss xs
    | _ => false
end

/-! ### it is sound -/
variable {Γ : Gam} {N : List Str} {k : Nat}
mutual
theorem sndG {sc : Sco} : ∀ (t : Tg) (x : Expr), chkG N sc t x = true → VG Γ k N sc x t
  | .nm i, x, h => by
    cases x <;> simp only [chkG, Bool.and_eq_true, decide_eq_true_eq, Bool.false_eq_true] at h
    exact vg_nm h.1 h.2
  | .tp ts, x, h => by
    cases x <;> simp only [chkG, Bool.false_eq_true] at h
    obtain ⟨h1, h2⟩ := sndGs ts _ h
    exact vg_tp h1 h2
theorem sndGs {sc : Sco} : ∀ (ts : List Tg) (xs : List Expr), chkGs N sc ts xs = true → VGs Γ k N sc xs ts ∧ xs.length = ts.length
  | [], xs, h => by
    cases xs with
    | nil => exact ⟨vgs_nil, rfl⟩
    | cons x xs => simp [chkGs] at h
  | t :: ts, xs, h => by
    cases xs with
    | nil => simp [chkGs] at h
    | cons x xs =>
      simp only [chkGs, Bool.and_eq_true] at h
      obtain ⟨h1, h2⟩ := sndGs ts xs h.2
      exact ⟨vgs_cons (sndG t x h.1) h1, by simp [h2]⟩
end
theorem nmOk_d {x : Str} (h : nmOk x = true) : (x == ("__debug__" : Str)) = false ∧ (x == ("__classdict__" : Str)) = false := by
  unfold nmOk at h
  simp only [Bool.and_eq_true, Bool.not_eq_true'] at h
  exact h
abbrev VB (Γ : Gam) (k : Nat) (N : List Str) (sc : Sco) (x : Expr) (e : E) : Prop := VE Γ k N sc x e ∧ VT Γ k N sc x e
theorem both {sc : Sco} {x : Expr} {e : E} (h : VE Γ k N sc x e) (hv : valX x = true) : VB Γ k N sc x e := ⟨h, vt_val h hv⟩
theorem boolTail {sc : Sco} {y : Expr} {rest : List Expr} {b : E} {op : BoolOp} {pos : Pos} (snd : ∀ x, chkE Γ.toSig N sc b x = true → VB Γ k N sc x b)
    (h : (match rest with | [] => chkE Γ.toSig N sc b y | _ :: _ => chkE Γ.toSig N sc b (.BoolOp op (y :: rest) pos)) = true) : VE Γ k N sc (.BoolOp op (y :: rest) pos) b := by
  cases rest with
  | nil => exact ve_one (snd y h).1
  | cons z r => exact (snd _ h).1
theorem andW {sc : Sco} : ∀ (e : E) (xs : List Expr) (pos : Pos), xs.length ≥ 2 → VT Γ k N sc (.BoolOp .And xs pos) e → True := fun _ _ _ _ _ => trivial
mutual
theorem sndE : ∀ {sc : Sco} (e : E) (x : Expr), chkE Γ.toSig N sc e x = true → VB Γ k N sc x e
  | sc, .var i, x, h => by
    simp only [chkE] at h
    split at h
    · simp only [Bool.and_eq_true, decide_eq_true_eq] at h
      exact both (ve_var h.1.1 h.1.2 (nmOk_d h.2).1 (nmOk_d h.2).2) rfl
    · cases h
  | sc, .cst t, x, h => by
    simp only [chkE] at h
    split at h
    · exact both (ve_cst h) rfl
    · cases h
  | sc, .glo y t, x, h => by
    simp only [chkE] at h
    split at h
    · simp only [Bool.and_eq_true, decide_eq_true_eq] at h
      obtain ⟨⟨⟨rfl, h2⟩, h3⟩, h4⟩ := h
      exact both (ve_glo h2 (gloB_mem h3) (nmOk_d h4).1) rfl
    · cases h
  | sc, .bin op a b, x, h => by
    simp only [chkE] at h
    split at h
    · simp only [Bool.and_eq_true, decide_eq_true_eq] at h
      obtain ⟨⟨rfl, h2⟩, h3⟩ := h
      exact both (ve_bin (sndE a _ h2).1 (sndE b _ h3).1) rfl
    · cases h
  | sc, .neg a, x, h => by
    simp only [chkE] at h
    split at h
    · exact both (ve_neg (sndE a _ h).1) rfl
    · cases h
  | sc, .cmp op a b, x, h => by
    simp only [chkE] at h
    split at h
    · simp only [Bool.and_eq_true, decide_eq_true_eq] at h
      obtain ⟨⟨⟨rfl, h2⟩, h3⟩, h4⟩ := h
      exact ⟨ve_cmp (sndE a _ h3).1 (sndE b _ h4).1 h2, vt_cmp (sndE a _ h3).1 (sndE b _ h4).1 h2⟩
    · cases h
  | sc, .chn p q a b c, x, h => by
    simp only [chkE] at h
    split at h
    · simp only [Bool.and_eq_true, decide_eq_true_eq] at h
      obtain ⟨⟨⟨⟨⟨rfl, rfl⟩, h2⟩, h3⟩, h4⟩, h5⟩ := h
      exact ⟨ve_chn (sndE a _ h3).1 (sndE b _ h4).1 (sndE c _ h5).1 h2, vt_chn (sndE a _ h3).1 (sndE b _ h4).1 (sndE c _ h5).1 h2⟩
    · cases h
  | sc, .and a b, x, h => by
    simp only [chkE] at h
    split at h
    · simp only [Bool.and_eq_true] at h
      obtain ⟨h1, h2⟩ := h
      have sa := sndE a _ h1
      rename_i y rest pos
      cases rest with
      | nil => exact ⟨ve_and sa.1 (ve_one (sndE b _ h2).1), (vw_and sa.2 (vw_and1 (sndE b _ h2).2)).vt⟩
      | cons z r => exact ⟨ve_and sa.1 (sndE b _ h2).1, (vw_and sa.2 (sndA b _ _ h2)).vt⟩
    · cases h
  | sc, .or a b, x, h => by
    simp only [chkE] at h
    split at h
    · simp only [Bool.and_eq_true] at h
      obtain ⟨h1, h2⟩ := h
      have sa := sndE a _ h1
      rename_i y rest pos
      cases rest with
      | nil => exact ⟨ve_or sa.1 (ve_one (sndE b _ h2).1), (vw_or sa.2 (vw_or1 (sndE b _ h2).2)).vt⟩
      | cons z r => exact ⟨ve_or sa.1 (sndE b _ h2).1, (vw_or sa.2 (sndO b _ _ h2)).vt⟩
    · cases h
  | sc, .not a, x, h => by
    simp only [chkE] at h
    split at h
    · have sa := sndE a _ h
      exact ⟨ve_not sa.1, vt_not sa.2⟩
    · cases h
  | sc, .ite c a b, x, h => by simp [chkE] at h
  | sc, .tup es, x, h => by
    simp only [chkE] at h
    split at h
    · exact both (ve_tup (sndEs es _ h)) rfl
    · cases h
  | sc, .lst fz es, x, h => by
    simp only [chkE] at h
    split at h
    · exact both (ve_lst (sndEs es _ h)) rfl
    · cases h
  | sc, .dnew b, x, h => by
    simp only [chkE] at h
    split at h
    · exact both ve_dnew rfl
    · cases h
  | sc, .dd1 a b, x, h => by
    simp only [chkE] at h
    split at h
    · simp only [Bool.and_eq_true] at h
      exact both (ve_dd1 (sndE a _ h.1).1 (sndE b _ h.2).1) rfl
    · cases h
  | sc, .ix a b, x, h => by
    simp only [chkE] at h
    split at h
    · simp only [Bool.and_eq_true] at h
      exact both (ve_ix (sndE a _ h.1.2).1 (sndE b _ h.2).1 h.1.1) rfl
    · cases h
  | sc, .slc fz a lo hi, x, h => by
    simp only [chkE] at h
    split at h
    · simp only [Bool.and_eq_true] at h
      exact both (ve_slc (sndE a _ h.1.1).1 (sndEo lo _ h.1.2) (sndEo hi _ h.2)) rfl
    · cases h
  | sc, .call f es, x, h => by
    simp only [chkE] at h
    split at h
    · simp only [Bool.and_eq_true, decide_eq_true_eq] at h
      obtain ⟨⟨⟨h1, h2⟩, h3⟩, h4⟩ := h
      have he := sndEs es _ h4
      rename_i nm p xs pos
      cases xs with
      | nil =>
        have e : es = .nil := by
          cases es with
          | nil => rfl
          | cons e es => simp [chkEs] at h4
        subst e
        exact both (ve_call0 h1 h2 (nmOk_d h3).1) rfl
      | cons y ys => exact both (ve_call h1 h2 (nmOk_d h3).1 he) rfl
    · cases h
  | sc, .bfn fz b es, x, h => by
    simp only [chkE] at h
    split at h
    · simp only [Bool.and_eq_true, decide_eq_true_eq] at h
      obtain ⟨⟨⟨h1, h2⟩, h3⟩, h4⟩ := h
      exact both (ve_bfn h1 h2 h3 (sndEs es _ h4)) rfl
    · cases h
  | sc, .srev fz a, x, h => by
    simp only [chkE] at h
    split at h
    · simp only [Bool.and_eq_true, decide_eq_true_eq] at h
      obtain ⟨⟨⟨⟨⟨h1, rfl⟩, h3⟩, h4⟩, h5⟩, h6⟩ := h
      exact both (ve_srev h1 h3 h4 h5 (sndE a _ h6).1) rfl
    · cases h
  | sc, .isi a ks, x, h => by
    cases ks with
    | nil => simp [chkE] at h
    | cons kn ks =>
      cases ks with
      | cons _ _ => simp [chkE] at h
      | nil =>
        simp only [chkE] at h
        split at h
        · simp only [Bool.and_eq_true, decide_eq_true_eq] at h
          obtain ⟨⟨⟨⟨⟨⟨⟨⟨rfl, rfl⟩, h3⟩, h4⟩, h5⟩, h6⟩, h7⟩, h8⟩, h9⟩ := h
          exact both (ve_isi h3 h4 h5 h6 h7 h8 (sndE a _ h9).1) rfl
        · cases h
  | sc, .mth m o es, x, h => by
    simp only [chkE] at h
    split at h
    · simp only [Bool.and_eq_true, decide_eq_true_eq] at h
      obtain ⟨⟨⟨⟨⟨h1, h2⟩, h3⟩, h4⟩, h5⟩, h6⟩ := h
      have he := sndEs es _ h6
      have ho := (sndE o _ h5).1
      rename_i y nm apos xs pos
      cases xs with
      | nil =>
        have e : es = .nil := by
          cases es with
          | nil => rfl
          | cons e es => simp [chkEs] at h6
        subst e
        exact both (ve_mth0 h1 h2 h3 ho) rfl
      | cons y ys => exact both (ve_mth h1 h2 h3 ho he h4) rfl
    · cases h
  | sc, .new c fs es, x, h => by
    simp only [chkE] at h
    split at h
    · simp only [Bool.and_eq_true, decide_eq_true_eq] at h
      obtain ⟨⟨⟨⟨⟨rfl, h2⟩, h3⟩, h4⟩, h5⟩, h6⟩ := h
      exact both (ve_new (clsB_mem h3) h2 h4 (nmOk_d h5).1 (sndEs _ _ h6)) rfl
    · cases h
  | sc, .fldv i f, x, h => by
    simp only [chkE] at h
    split at h
    · simp only [Bool.and_eq_true, decide_eq_true_eq] at h
      obtain ⟨⟨⟨rfl, h2⟩, h3⟩, h4⟩ := h
      exact both (ve_fldv h2 h3 (nmOk_d h4).1 (nmOk_d h4).2) rfl
    · cases h
  | sc, .comp fz own tg it ifs e, x, h => by
    simp only [chkE] at h
    split at h
    · simp only [Bool.and_eq_true] at h
      obtain ⟨⟨⟨⟨⟨h1, h2⟩, h3⟩, h4⟩, h5⟩, h6⟩ := h
      exact both (ve_comp h1 (sndI it _ _ h3) (sndG tg _ h4) (sndC ifs _ h5) (sndE e _ h6).1 h2) rfl
    · cases h
theorem sndA : ∀ {sc : Sco} (e : E) (xs : List Expr) (pos : Pos), chkE Γ.toSig N sc e (.BoolOp .And xs pos) = true → VW Γ k N sc (.BoolOp .And xs pos) e
  | sc, .and a b, xs, pos, h => by
    simp only [chkE] at h
    split at h
    · rename_i e
      cases e
      simp only [Bool.and_eq_true] at h
      obtain ⟨h1, h2⟩ := h
      have sa := (sndE a _ h1).2
      rename_i y rest
      cases rest with
      | nil => exact vw_and sa (vw_and1 (sndE b _ h2).2)
      | cons z r => exact vw_and sa (sndA b _ _ h2)
    · cases h
  | sc, .var _, xs, pos, h => by simp [chkE] at h
  | sc, .cst _, xs, pos, h => by simp [chkE] at h
  | sc, .glo _ _, xs, pos, h => by simp [chkE] at h
  | sc, .bin _ _ _, xs, pos, h => by simp [chkE] at h
  | sc, .neg _, xs, pos, h => by simp [chkE] at h
  | sc, .cmp _ _ _, xs, pos, h => by simp [chkE] at h
  | sc, .chn _ _ _ _ _, xs, pos, h => by simp [chkE] at h
  | sc, .or _ _, xs, pos, h => by simp [chkE] at h
  | sc, .not _, xs, pos, h => by simp [chkE] at h
  | sc, .ite _ _ _, xs, pos, h => by simp [chkE] at h
  | sc, .tup _, xs, pos, h => by simp [chkE] at h
  | sc, .lst _ _, xs, pos, h => by simp [chkE] at h
  | sc, .dnew _, xs, pos, h => by simp [chkE] at h
  | sc, .ix _ _, xs, pos, h => by simp [chkE] at h
  | sc, .slc _ _ _ _, xs, pos, h => by simp [chkE] at h
  | sc, .call _ _, xs, pos, h => by simp [chkE] at h
  | sc, .bfn _ _ _, xs, pos, h => by simp [chkE] at h
  | sc, .isi _ ks, xs, pos, h => by
    cases ks with
    | nil => simp [chkE] at h
    | cons a r => cases r <;> simp [chkE] at h
  | sc, .mth _ _ _, xs, pos, h => by simp [chkE] at h
  | sc, .new _ _ _, xs, pos, h => by simp [chkE] at h
  | sc, .fldv _ _, xs, pos, h => by simp [chkE] at h
  | sc, .comp _ _ _ _ _ _, xs, pos, h => by simp [chkE] at h
theorem sndO : ∀ {sc : Sco} (e : E) (xs : List Expr) (pos : Pos), chkE Γ.toSig N sc e (.BoolOp .Or xs pos) = true → VW Γ k N sc (.BoolOp .Or xs pos) e
  | sc, .or a b, xs, pos, h => by
    simp only [chkE] at h
    split at h
    · rename_i e
      cases e
      simp only [Bool.and_eq_true] at h
      obtain ⟨h1, h2⟩ := h
      have sa := (sndE a _ h1).2
      rename_i y rest
      cases rest with
      | nil => exact vw_or sa (vw_or1 (sndE b _ h2).2)
      | cons z r => exact vw_or sa (sndO b _ _ h2)
    · cases h
  | sc, .var _, xs, pos, h => by simp [chkE] at h
  | sc, .cst _, xs, pos, h => by simp [chkE] at h
  | sc, .glo _ _, xs, pos, h => by simp [chkE] at h
  | sc, .bin _ _ _, xs, pos, h => by simp [chkE] at h
  | sc, .neg _, xs, pos, h => by simp [chkE] at h
  | sc, .cmp _ _ _, xs, pos, h => by simp [chkE] at h
  | sc, .chn _ _ _ _ _, xs, pos, h => by simp [chkE] at h
  | sc, .and _ _, xs, pos, h => by simp [chkE] at h
  | sc, .not _, xs, pos, h => by simp [chkE] at h
  | sc, .ite _ _ _, xs, pos, h => by simp [chkE] at h
  | sc, .tup _, xs, pos, h => by simp [chkE] at h
  | sc, .lst _ _, xs, pos, h => by simp [chkE] at h
  | sc, .dnew _, xs, pos, h => by simp [chkE] at h
  | sc, .ix _ _, xs, pos, h => by simp [chkE] at h
  | sc, .slc _ _ _ _, xs, pos, h => by simp [chkE] at h
  | sc, .call _ _, xs, pos, h => by simp [chkE] at h
  | sc, .bfn _ _ _, xs, pos, h => by simp [chkE] at h
  | sc, .isi _ ks, xs, pos, h => by
    cases ks with
    | nil => simp [chkE] at h
    | cons a r => cases r <;> simp [chkE] at h
  | sc, .mth _ _ _, xs, pos, h => by simp [chkE] at h
  | sc, .new _ _ _, xs, pos, h => by simp [chkE] at h
  | sc, .fldv _ _, xs, pos, h => by simp [chkE] at h
  | sc, .comp _ _ _ _ _ _, xs, pos, h => by simp [chkE] at h
theorem sndEs : ∀ {sc : Sco} (es : Es) (xs : List Expr), chkEs Γ.toSig N sc es xs = true → VEs Γ k N sc xs es
  | sc, .nil, xs, h => by
    simp only [chkEs] at h
    split at h
    · exact ves_nil
    · cases h
  | sc, .cons e es, xs, h => by
    simp only [chkEs] at h
    split at h
    · simp only [Bool.and_eq_true] at h
      exact ves_cons h.1.1 (sndE e _ h.1.2).1 (sndEs es _ h.2)
    · cases h
theorem sndEo : ∀ {sc : Sco} (e : Eo) (x : Option Expr), chkEo Γ.toSig N sc e x = true → VO Γ k N sc x e
  | sc, .none, x, h => by
    simp only [chkEo] at h
    split at h
    · exact vo_none
    · cases h
  | sc, .some e, x, h => by
    simp only [chkEo] at h
    split at h
    · exact vo_some (sndE e _ h).1
    · cases h
theorem sndC : ∀ {sc : Sco} (es : Es) (xs : List Expr), chkC Γ.toSig N sc es xs = true → VC Γ k N sc xs es
  | sc, .nil, xs, h => by
    simp only [chkC] at h
    split at h
    · exact vc_nil
    · cases h
  | sc, .cons e .nil, xs, h => by
    simp only [chkC] at h
    split at h
    · exact vc_one (sndE e _ h).2
    · cases h
  | sc, .cons e (.cons _ _), xs, h => by simp [chkC] at h
theorem sndI : ∀ {sc : Sco} (it : It) (t x : Expr), chkI Γ.toSig N sc it t x = true → VI Γ k N sc t x it
  | sc, .val e, t, x, h => by
    simp only [chkI, Bool.and_eq_true] at h
    exact vi_val h.1 (sndE e _ h.2).1
  | sc, .rng1 a, t, x, h => by
    simp only [chkI] at h
    split at h
    · simp only [Bool.and_eq_true, decide_eq_true_eq] at h
      obtain ⟨⟨⟨⟨rfl, h2⟩, h3⟩, h4⟩, h5⟩ := h
      exact vi_rng1 h4 h2 h3 (sndE a _ h5).1
    · cases h
  | sc, .rng2 a b, t, x, h => by
    simp only [chkI] at h
    split at h
    · simp only [Bool.and_eq_true, decide_eq_true_eq] at h
      obtain ⟨⟨⟨⟨⟨⟨rfl, h2⟩, h3⟩, h4⟩, h5⟩, h6⟩, h7⟩ := h
      exact vi_rng2 h4 h5 h2 h3 (sndE a _ h6).1 (sndE b _ h7).1
    · cases h
  | sc, .enm a, t, x, h => by
    simp only [chkI] at h
    split at h
    · simp only [Bool.and_eq_true, decide_eq_true_eq] at h
      obtain ⟨⟨⟨⟨rfl, h2⟩, h3⟩, h4⟩, h5⟩ := h
      exact vi_enm h4 h2 h3 (sndE a _ h5).1
    · cases h
  | sc, .zip a b, t, x, h => by
    simp only [chkI] at h
    split at h
    · simp only [Bool.and_eq_true, decide_eq_true_eq] at h
      obtain ⟨⟨⟨⟨⟨⟨rfl, h2⟩, h3⟩, h4⟩, h5⟩, h6⟩, h7⟩ := h
      exact vi_zip h4 h5 h2 h3 (sndE a _ h6).1 (sndE b _ h7).1
    · cases h
  | sc, .rev a, t, x, h => by
    simp only [chkI] at h
    split at h
    · simp only [Bool.and_eq_true, decide_eq_true_eq] at h
      obtain ⟨⟨⟨⟨rfl, h2⟩, h3⟩, h4⟩, h5⟩ := h
      exact vi_rev h4 h2 h3 (sndE a _ h5).1
    · cases h
end
section
variable {X : Cx} {W : WX} {a : Addr} {oe : Obj} {cls : Value} {dd : Option Addr} {pn : List (Addr × Obj)} {i : Option Nat} {sc : Sco}
mutual
theorem sndH (g : Gd Γ k N sc X W) (hz : Zc cls dd oe) (hf : ∃ vs, oe.data = .fields vs) (n : Option (Str × Nat)) (hn : ∀ y j, n = some (y, j) → i = some j) : ∀ (e : HE) (x : Expr), chkH Γ.toSig N sc n e x = true → HEk X a oe cls dd pn i x e
  | .var j, x, h => by
    simp only [chkH] at h
    split at h
    · simp only [Bool.and_eq_true, decide_eq_true_eq] at h
      exact he_var g h.1.1 h.1.2 (nmOk_d h.2).1 (nmOk_d h.2).2
    · cases h
  | .cst t, x, h => by
    simp only [chkH] at h
    split at h
    · exact he_cst h
    · cases h
  | .fld f cs, x, h => by
    simp only [chkH] at h
    split at h
    · simp only [Bool.and_eq_true, decide_eq_true_eq] at h
      obtain ⟨⟨⟨⟨⟨rfl, rfl⟩, h3⟩, h4⟩, h5⟩, h6⟩ := h
      exact he_fld g hz hf (hn _ _ rfl) h3 h4 (nmOk_d h5).1 (nmOk_d h5).2 (fldB_ok h6)
    · cases h
  | .isi c tab, x, h => by
    simp only [chkH] at h
    split at h
    · simp only [Bool.and_eq_true, decide_eq_true_eq] at h
      obtain ⟨⟨⟨⟨⟨⟨⟨⟨⟨⟨rfl, rfl⟩, rfl⟩, h3⟩, h4⟩, h5⟩, h6⟩, h7⟩, h8⟩, h9⟩, h10⟩ := h
      exact he_isi g hz hf (hn _ _ rfl) h3 h4 (nmOk_d h5).1 (nmOk_d h5).2 h6 h7 h8 (nmOk_d h9).1 (tabB_ok h10)
    · cases h
  | .oth f tab, x, h => by
    simp only [chkH] at h
    split at h
    · simp only [Bool.and_eq_true, decide_eq_true_eq] at h
      obtain ⟨⟨⟨⟨⟨⟨⟨rfl, rfl⟩, h3⟩, h4⟩, h5⟩, h6⟩, h7⟩, h8⟩ := h
      exact he_oth g hz hf (hn _ _ rfl) h3 h4 (nmOk_d h5).1 (nmOk_d h5).2 h6 (nmOk_d h7).1 h8
    · cases h
  | .cmp op e f, x, h => by
    simp only [chkH] at h
    split at h
    · simp only [Bool.and_eq_true, decide_eq_true_eq] at h
      obtain ⟨⟨⟨rfl, h2⟩, h3⟩, h4⟩ := h
      exact he_cmp g (sndH g hz hf n hn e _ h3) (sndH g hz hf n hn f _ h4) h2
    · cases h
  | .and e f, x, h => by
    simp only [chkH] at h
    split at h
    · simp only [Bool.and_eq_true] at h
      exact he_and (sndH g hz hf n hn e _ h.1) (sndH g hz hf n hn f _ h.2)
    · cases h
  | .or e f, x, h => by
    simp only [chkH] at h
    split at h
    · simp only [Bool.and_eq_true] at h
      exact he_or (sndH g hz hf n hn e _ h.1) (sndH g hz hf n hn f _ h.2)
    · cases h
  | .or3 e f e3, x, h => by
    simp only [chkH] at h
    split at h
    · simp only [Bool.and_eq_true] at h
      exact he_or3 (sndH g hz hf n hn e _ h.1.1) (sndH g hz hf n hn f _ h.1.2) (sndH g hz hf n hn e3 _ h.2)
    · cases h
  | .not e, x, h => by
    simp only [chkH] at h
    split at h
    · exact he_not (sndH g hz hf n hn e _ h)
    · cases h
  | .tup es, x, h => by
    simp only [chkH] at h
    split at h
    · exact he_tup (sndHs g hz hf n hn es _ h)
    · cases h
  | .lst es, x, h => by
    simp only [chkH] at h
    split at h
    · exact he_lst (sndHs g hz hf n hn es _ h)
    · cases h
theorem sndHs (g : Gd Γ k N sc X W) (hz : Zc cls dd oe) (hf : ∃ vs, oe.data = .fields vs) (n : Option (Str × Nat)) (hn : ∀ y j, n = some (y, j) → i = some j) : ∀ (es : HEs) (xs : List Expr), chkHs Γ.toSig N sc n es xs = true → HEsk X a oe cls dd pn i xs es
  | .nil, xs, h => by
    simp only [chkHs] at h
    split at h
    · exact hes_nil
    · cases h
  | .cons e es, xs, h => by
    simp only [chkHs] at h
    split at h
    · simp only [Bool.and_eq_true] at h
      exact hes_cons h.1.1 (sndH g hz hf n hn e _ h.1.2) (sndHs g hz hf n hn es _ h.2)
    · cases h
end
mutual
theorem sndHS (g : Gd Γ k N sc X W) (hz : Zc cls dd oe) (hf : ∃ vs, oe.data = .fields vs) (n : Option (Str × Nat)) (hn : ∀ j, i = some j ↔ n.map (·.2) = some j) : ∀ (s : HS) (x : Stmt), chkHS Γ.toSig N sc n s x = true → HSk X a oe cls dd pn i x s
  | .ret e, x, h => by
    simp only [chkHS] at h
    split at h
    · exact hs_ret (sndH g hz hf n (fun y j z => (hn j).mpr (by rw [z]; rfl)) e _ h)
    · cases h
  | .asg j e, x, h => by
    simp only [chkHS] at h
    split at h
    · simp only [Bool.and_eq_true, decide_eq_true_eq] at h
      obtain ⟨⟨⟨⟨⟨h1, h2⟩, h3⟩, h4⟩, h5⟩, h6⟩ := h
      exact hs_asg g h1 h2 h3 h4 (fun z => h5 ((hn j).mp z)) (sndH g hz hf n (fun y j z => (hn j).mpr (by rw [z]; rfl)) e _ h6)
    · cases h
  | .ife c sa sb, x, h => by
    simp only [chkHS] at h
    split at h
    · simp only [Bool.and_eq_true] at h
      exact hs_if (sndH g hz hf n (fun y j z => (hn j).mpr (by rw [z]; rfl)) c _ h.1.1) (sndHSs0 g hz hf n hn sa _ h.1.2) (sndHSs0 g hz hf n hn sb _ h.2)
    · cases h
  | .pss, x, h => by
    simp only [chkHS] at h
    split at h
    · exact hs_pss
    · cases h
  | .unk, x, h => hs_unk
theorem sndHSs0 (g : Gd Γ k N sc X W) (hz : Zc cls dd oe) (hf : ∃ vs, oe.data = .fields vs) (n : Option (Str × Nat)) (hn : ∀ j, i = some j ↔ n.map (·.2) = some j) : ∀ (ss : HSs) (xs : List Stmt), chkHSs Γ.toSig N sc n ss xs = true → HSsk X a oe cls dd pn i xs ss
  | .nil, xs, h => by
    simp only [chkHSs] at h
    split at h
    · exact hss_nil
    · cases h
  | .cons s ss, xs, h => by
    simp only [chkHSs] at h
    split at h
    · simp only [Bool.and_eq_true] at h
      exact hss_cons (sndHS g hz hf n hn s _ h.1) (sndHSs0 g hz hf n hn ss _ h.2)
    · cases h
end
theorem sndHSs (g : Gd Γ k N sc X W) (hz : Zc cls dd oe) (hf : ∃ vs, oe.data = .fields vs) (n : Option (Str × Nat)) (ss : HSs) (xs : List Stmt) (h : chkHSs Γ.toSig N sc n ss xs = true) : HSsk X a oe cls dd pn (n.map (·.2)) xs ss := sndHSs0 g hz hf n (fun _ => Iff.rfl) ss xs h
end
mutual
theorem sndS {sc : Sco} : ∀ (s : S) (x : Stmt), chkS Γ.toSig N sc s x = true → VS Γ k N sc x s
  | .asg tg e, x, h => by
    simp only [chkS] at h
    split at h
    · split at h
      · simp only [Bool.and_eq_true, Bool.or_eq_true, decide_eq_true_eq, Bool.not_eq_true'] at h
        obtain ⟨⟨⟨⟨⟨⟨⟨h1, h2⟩, h3⟩, h4⟩, h5⟩, h6⟩, h7⟩, h8⟩ := h
        rcases h8 with ⟨⟨a1, a2⟩, a3⟩ | ⟨a1, a2⟩
        · exact vs_setLc h1 a1 a2 a3 h2 (sndI _ _ _ h4) (sndG _ _ h5) (sndC _ _ h6) (sndE _ _ h7).1 h3
        · exact vs_setLcC h1 a1 a2 (ve_comp h2 (sndI _ _ _ h4) (sndG _ _ h5) (sndC _ _ h6) (sndE _ _ h7).1 h3)
      · simp only [Bool.and_eq_true, decide_eq_true_eq] at h
        obtain ⟨⟨⟨⟨h1, h2⟩, h3⟩, h4⟩, h5⟩ := h
        exact vs_set h1 h2 h3 h4 (sndE _ _ h5).1
      · simp only [Bool.and_eq_true] at h
        obtain ⟨⟨⟨⟨h1, h2⟩, h3⟩, h4⟩, h5⟩ := h
        exact vs_asg h1 h2 h3 (sndG _ _ h4) (sndE _ _ h5).1
    · cases h
  | .setx o i e, x, h => by
    simp only [chkS] at h
    split at h
    · simp only [Bool.and_eq_true] at h
      obtain ⟨⟨⟨⟨⟨h1, h2⟩, h3⟩, h4⟩, h5⟩, h6⟩ := h
      exact vs_setx h1 h2 h3 (sndE _ _ h4).1 (sndE _ _ h5).1 (sndE _ _ h6).1
    · cases h
  | .xpr e, x, h => by
    simp only [chkS] at h
    split at h
    · simp only [Bool.and_eq_true] at h
      exact vs_xpr h.1.1 h.1.2 (sndE _ _ h.2).1
    · cases h
  | .ret e, x, h => by
    simp only [chkS] at h
    split at h
    · exact vs_ret (sndE _ _ h).1
    · cases h
  | .retN, x, h => by
    simp only [chkS] at h
    split at h
    · exact vs_retN
    · cases h
  | .ife c a b, x, h => by
    simp only [chkS] at h
    split at h
    · simp only [Bool.and_eq_true] at h
      exact vs_if (sndE _ _ h.1.1).2 (sndSs a _ h.1.2) (sndSs b _ h.2)
    · cases h
  | .for tg it b, x, h => by
    simp only [chkS] at h
    split at h
    · simp only [Bool.and_eq_true] at h
      exact vs_for (sndI _ _ _ h.1.1) (sndG _ _ h.1.2) (sndSs b _ h.2)
    · cases h
  | .whl n c b, x, h => by
    simp only [chkS] at h
    split at h
    · simp only [Bool.and_eq_true] at h
      exact vs_whl (sndE _ _ h.1).2 (sndSs b _ h.2)
    · cases h
  | .brk, x, h => by
    simp only [chkS] at h
    split at h
    · exact vs_brk
    · cases h
  | .cnt, x, h => by
    simp only [chkS] at h
    split at h
    · exact vs_cnt
    · cases h
  | .pss, x, h => by
    simp only [chkS] at h
    split at h
    · exact vs_pss
    · cases h
  | .unk, x, h => vs_unk
  | .rse c fs es, x, h => by
    simp only [chkS] at h
    split at h
    · simp only [Bool.and_eq_true, decide_eq_true_eq] at h
      obtain ⟨⟨⟨⟨⟨rfl, h2⟩, h3⟩, h4⟩, h5⟩, h6⟩ := h
      exact vs_rse (clsB_mem h3) h2 h4 (nmOk_d h5).1 (sndEs _ _ h6)
    · cases h
  | .rsm c m, x, h => by
    simp only [chkS] at h
    split at h
    · simp only [Bool.and_eq_true, decide_eq_true_eq] at h
      obtain ⟨⟨⟨⟨rfl, rfl⟩, h3⟩, h4⟩, h5⟩ := h
      exact vs_rsm (clsB_mem h3) h4 (nmOk_d h5).1
    · cases h
  | .tryx b c tab i hs, x, h => by
    simp only [chkS] at h
    split at h
    · simp only [Bool.and_eq_true, decide_eq_true_eq, Bool.not_eq_true', List.isEmpty_eq_false_iff] at h
      obtain ⟨⟨⟨⟨⟨⟨⟨rfl, h2⟩, h3⟩, h4⟩, h5⟩, h6⟩, h7⟩, h8⟩ := h
      split at h8
      · rename_i n j
        simp only [Bool.and_eq_true, decide_eq_true_eq] at h8
        exact vs_tryA h2 h8.1.1 h8.1.2 h3 (nmOk_d h4).1 (tabB_ok h5) h6 (sndSs b _ h7) fun X W g a oe cls dd pn hz hf => sndHSs g hz hf (some (n, j)) _ _ h8.2
      · exact vs_tryN h2 h3 (nmOk_d h4).1 (tabB_ok h5) h6 (sndSs b _ h7) fun X W g a oe cls dd pn hz hf => sndHSs g hz hf none _ _ h8
      · cases h8
    · cases h
  | .tryr e c tab c2 m, x, h => by
    simp only [chkS] at h
    split at h
    · simp only [Bool.and_eq_true, decide_eq_true_eq, Bool.not_eq_true', List.isEmpty_eq_false_iff] at h
      obtain ⟨⟨⟨⟨⟨⟨⟨⟨⟨⟨⟨⟨⟨⟨rfl, h2⟩, hw⟩, h3⟩, h4⟩, h5⟩, h6⟩, h7⟩, h8⟩, h9⟩, rfl⟩, rfl⟩, h10⟩, h11⟩, h12⟩ := h
      exact vs_tryr h2 hw h3 (nmOk_d h4).1 (tabB_ok h5) h6 (vs_xpr h7 h8 (sndE (Γ := Γ.strong) e _ h9).1) (clsB_mem h10) h11 (nmOk_d h12).1
    · cases h
theorem sndSs {sc : Sco} : ∀ (ss : Ss) (xs : List Stmt), chkSs Γ.toSig N sc ss xs = true → VSs Γ k N sc xs ss
  | .nil, xs, h => by
    simp only [chkSs] at h
    split at h
    · exact vss_nil
    · cases h
  | .cons s ss, xs, h => by
    simp only [chkSs] at h
    split at h
    · simp only [Bool.and_eq_true] at h
      exact vss_cons (sndS s _ h.1) (sndSs ss _ h.2)
    · cases h
end
end MI
/-! MI10: a program's table of defs, and the law's end. -/
namespace MI
open PySem PySem.Spec PyProof.Rows L2

structure Ent where
  nm : Str
  st : Stmt
  N : List Str
  ps : List Str
  d : Def
def sigOf (tbl : List Ent) (blts : List Str) (glo : List (Str × T)) (cls : List ClsI) (sub xf : List (Str × Str × Bool)) : Sig := ⟨fun f => (tbl[f]?).map (·.nm), blts, glo, cls, sub, xf, false, fun _ => none⟩
def defsOf (tbl : List Ent) : Nat → Option Def := fun f => (tbl[f]?).map (·.d)
structure EntOk (Sg : Sig) (e : Ent) : Prop where
  sc : FnScope e.N e.ps (defScope e.st)
  ar : e.d.ar = e.ps.length
  n : e.d.n = e.N.length
  chk : chkSs Sg e.N (defSco e.st) e.d.body (defBody e.st) = true
structure EntAt (K : PySem.W.Frag) (mg : Str → Option Value) (e : Ent) : Prop where
  at_ : ∃ a fd, L2.Fun K e.nm e.nm e.st a fd ∧ mg e.nm = some (.ref a) ∧ ∀ us : List Value, us.length = e.ps.length → bindArgs fd ⟨us, []⟩ = pure (e.ps.zip us)
theorem ent_mk {K : PySem.W.Frag} {h : Heap} {mg : Str → Option Value} (X : K.In h) (G : h.Ns mainGlobals mg) {e : Ent} {f : Addr} {oc kV dc pm cd ct : Value} {od an : Option Addr} {sl : Array (Option Value)}
    (a : PySem.W.nsIn K mainGlobals e.nm = some (some (.ref f))) (l : K.lookup f = some ⟨oc, od, .func (PySem.W.fnOf e.nm e.nm (defArgs e.st) (defBody e.st) (defScope e.st) .none kV dc pm an cd ct), sl⟩)
    (c : PySem.W.codeIn K cd e.nm = true) (k : PySem.W.keepIn K (.ref f) = true)
    (hb : ∀ (kV doc pm : Value) (an : Option Addr) (cdv ct : Value) (us : List Value), us.length = e.ps.length → bindArgs (PySem.W.fnOf e.nm e.nm (defArgs e.st) (defBody e.st) (defScope e.st) .none kV doc pm an cdv ct) ⟨us, []⟩ = pure (e.ps.zip us)) : EntAt K mg e := by
  have F := fun_mk (st := e.st) l c k
  exact ⟨_, _, F, PySem.W.mg_of X G a, hb kV dc pm an cd ct⟩
/-- own: a def that may let out exceptions with a context; wks: all of them -/
def sigB (S : Sig) (wks : List Nat) (own : Bool) : Sig := { S with fn := fun f => if own || !wks.contains f then S.fn f else none, fns := fun f => if wks.contains f then none else S.fn f, wk := own }
theorem tab_ok {tbl : List Ent} {blts : List Str} {glo : List (Str × T)} {cls : List ClsI} {sub xf : List (Str × Str × Bool)} {wks : List Nat} {P : Program} {w : World} {K : PySem.W.Frag} {mg : Str → Option Value} {base : Heap} (ok : ∀ i e, tbl[i]? = some e → EntOk (sigB (sigOf tbl blts glo cls sub xf) wks (wks.contains i)) e) (at_ : ∀ e ∈ tbl, EntAt K mg e)
    (hb : ∀ x ∈ blts, mg x = none) (hg : ∀ x t, (x, t) ∈ glo → ∃ u, mg x = some u ∧ relG t u) (hc : ∀ c ∈ cls, ClsX P w K mg base c) (hs : ∀ c d b, (c, d, b) ∈ sub → SubX K mg c d b) (hx : ∀ f c b, (f, c, b) ∈ xf → XfX P w K mg base f c b) : ∀ (k f : Nat) (e : Ent) (a : Addr) (fd : FuncData), tbl[f]? = some e → L2.Fun K e.nm e.nm e.st a fd →
      FnOk P w K mg base (CXB (wks.contains f) P w) (k + 2) a fd e.ps (spF mg K (callI (defsOf tbl) k) f) := by
  intro k
  induction k with
  | zero => exact fun f e a fd _ _ => fn_zero
  | succ k ih =>
    intro f e a fd he F
    have o := ok f e he
    let Γ : Gam := { sigB (sigOf tbl blts glo cls sub xf) wks (wks.contains f) with F := callI (defsOf tbl) k }
    have key : ∀ g nm, (sigOf tbl blts glo cls sub xf).fn g = some nm → ∃ (a : Addr) (fd : FuncData) (ps : List Str), mg nm = some (.ref a) ∧ PySem.W.keepIn K (.ref a) = true ∧ Binds K fd ps [] ∧ FnOk P w K mg base (CXB (wks.contains g) P w) (k + 2) a fd ps (spF mg K (callI (defsOf tbl) k) g) := fun g nm hn => by
      have hn : (tbl[g]?).map (·.nm) = some nm := hn
      obtain ⟨e', h1, rfl⟩ := Option.map_eq_some_iff.mp hn
      obtain ⟨a', fd', F', m', b'⟩ := (at_ e' (List.mem_of_getElem? h1)).at_
      exact ⟨a', fd', e'.ps, m', F'.kp, .all b', ih g e' a' fd' h1 F'⟩
    have A1 : ∀ g nm, Γ.fn g = some nm → ∃ (a : Addr) (fd : FuncData) (ps : List Str) (c : Bool), (c = true → Γ.wk = true) ∧ mg nm = some (.ref a) ∧ PySem.W.keepIn K (.ref a) = true ∧ Binds K fd ps [] ∧ FnOk P w K mg base (CXB c P w) (k + 2) a fd ps (spF mg K Γ.F g) := fun g nm hn => by
      have hn : (if wks.contains f || !wks.contains g then (sigOf tbl blts glo cls sub xf).fn g else none) = some nm := hn
      split at hn
      · rename_i hw
        obtain ⟨a', fd', ps', h1, h2, h3, h4⟩ := key g nm hn
        refine ⟨a', fd', ps', wks.contains g, fun hc => ?_, h1, h2, h3, h4⟩
        show wks.contains f = true
        rw [hc] at hw
        simpa using hw
      · cases hn
    have A2 : ∀ g nm, Γ.fns g = some nm → ∃ (a : Addr) (fd : FuncData) (ps : List Str) (c : Bool), (c = true → false = true) ∧ mg nm = some (.ref a) ∧ PySem.W.keepIn K (.ref a) = true ∧ Binds K fd ps [] ∧ FnOk P w K mg base (CXB c P w) (k + 2) a fd ps (spF mg K Γ.F g) := fun g nm hn => by
      have hn : (if wks.contains g then none else (sigOf tbl blts glo cls sub xf).fn g) = some nm := hn
      split at hn
      · cases hn
      · rename_i hw
        obtain ⟨a', fd', ps', h1, h2, h3, h4⟩ := key g nm hn
        exact ⟨a', fd', ps', wks.contains g, fun hc => absurd hc hw, h1, h2, h3, h4⟩
    have A0 : Around0 Γ P w K mg base (k + 2) := ⟨A1, A2, hb, hg, hc, hs, hx⟩
    exact fn_callI (Γ := Γ) (defs := defsOf tbl) (d := e.d) (by omega) rfl F o.sc (by unfold defsOf; rw [he]; rfl) o.ar o.n A0 (sndSs (Γ := Γ) (k := k + 2) e.d.body _ o.chk)
/-! ### classes of exceptions -/
def iniS (st : Stmt) : Stmt := match st with
  | .ClassDef _ _ _ body _ _ _ _ _ _ _ => body.getD 0 (.Pass ⟨0, 0, 0, 0⟩)
  | s => s
def iniB (slf : Str) (fs : List Str) (b : List Stmt) : Bool := match fs, b with
  | [f], [.Assign [.Attribute (.Name s _) g _] (.Name h _) _] => decide (s = slf) && decide (g = f) && decide (h = f)
  | [f, f'], [.Assign [.Attribute (.Name s _) g _] (.Name h _) _, .Assign [.Attribute (.Name s' _) g' _] (.Name h' _) _] => decide (s = slf) && decide (g = f) && decide (h = f) && decide (s' = slf) && decide (g' = f') && decide (h' = f')
  | _, _ => false
def visA (sc : Scope) (l : List Str) : Bool := l.all fun x => (match sc.names.lookup x with
  | some .local => true | some .cell => true | some .free => true
  | _ => false) && nmOk x
theorem visA_ok {sc : Scope} {l : List Str} (h : visA sc l = true) : ∀ x ∈ l, Vis sc x ∧ (x == ("__debug__" : Str)) = false ∧ (x == ("__classdict__" : Str)) = false := fun x hx => by
  unfold visA at h
  rw [List.all_eq_true] at h
  have h := h x hx
  rw [Bool.and_eq_true] at h
  refine ⟨?_, nmOk_d h.2⟩
  have h1 := h.1
  split at h1
  · exact .inl (by assumption)
  · exact .inr (.inl (by assumption))
  · exact .inr (.inr (by assumption))
  · cases h1
theorem ini_fn {CX : CXT} {P : Program} {w : World} {K : PySem.W.Frag} {mg : Str → Option Value} {base : Heap} {fI C : Addr} {qual slf : Str} {st : Stmt} {fs : List Str} {kV doc pm cdv ct oc : Value} {an od : Option Addr} {osl : Array (Option Value)} (hb : iniB slf fs (defBody st) = true)
    (S : FnScope (slf :: fs) (slf :: fs) (defScope st)) (hv : visA (defScope st) (slf :: fs) = true) (lk : K.lookup fI = some ⟨oc, od, .func (PySem.W.fnOf "__init__" qual (defArgs st) (defBody st) (defScope st) .none kV doc pm an cdv ct), osl⟩) (hcd : PySem.W.codeIn K cdv qual = true) :
    FnOk P w K mg base CX 1 fI (PySem.W.fnOf "__init__" qual (defArgs st) (defBody st) (defScope st) .none kV doc pm an cdv ct) (slf :: fs) (spIni K C fs) := by
  have hv2 := visA_ok hv
  clear hv
  unfold iniB at hb
  split at hb
  · rename_i f s _ g _ h _ _ e
    simp only [Bool.and_eq_true, decide_eq_true_eq] at hb
    obtain ⟨⟨rfl, rfl⟩, rfl⟩ := hb
    rw [e] at lk ⊢
    obtain ⟨a1, a2, a3⟩ := hv2 _ List.mem_cons_self
    obtain ⟨b1, b2, b3⟩ := hv2 _ (List.mem_cons_of_mem _ List.mem_cons_self)
    exact fn_ini1 lk hcd S a1 b1 a2 b2 a3 b3
  · rename_i f f' s _ g _ h _ _ s' _ g' _ h' _ _ e
    simp only [Bool.and_eq_true, decide_eq_true_eq] at hb
    obtain ⟨⟨⟨⟨⟨rfl, rfl⟩, rfl⟩, rfl⟩, rfl⟩, rfl⟩ := hb
    rw [e] at lk ⊢
    obtain ⟨a1, a2, a3⟩ := hv2 _ List.mem_cons_self
    obtain ⟨b1, b2, b3⟩ := hv2 _ (List.mem_cons_of_mem _ List.mem_cons_self)
    obtain ⟨d1, d2, d3⟩ := hv2 _ (List.mem_cons_of_mem _ (List.mem_cons_of_mem _ List.mem_cons_self))
    exact fn_ini2 lk hcd S a1 b1 d1 a2 b2 d2 a3 b3 d3
  · cases hb
theorem cls_ini {P : Program} {w : World} {K : PySem.W.Frag} {mg : Str → Option Value} {base : Heap} {C fI : Addr} {nm qual slf : Str} {st : Stmt} {fs : List Str} {kV doc pm cdv ct oc : Value} {an od : Option Addr} {osl : Array (Option Value)}
    {cn q : Str} {N : Addr} {bs bm : List Value} {sn : List Str} {sub : List Value} {ab : Bool} {col : Option Bool} {dd : Option Addr} {k0 k1 k2 k3 k5 : Option Value} (hm : mg nm = some (.ref C)) (F : ClsF K C) (hf : ∀ f ∈ fs, PySem.W.findIn K (.ref C) f = some none)
    (lc : K.lookup C = some (excClassObj cn q C N bs bm true sn sub ab col dd k0 k1 k2 k3 k5 "ValueError.__new__")) (rv : PySem.HandSPX.refsVE bm = true) (sa : PySem.W.findIn K (.ref C) "__setattr__" = some (some (.builtin "object.__setattr__")))
    (tC : PySem.W.typeIn K (.ref C) = some (.type "type")) (kC : PySem.W.keepIn K (.ref C) = true) (iI : PySem.W.findIn K (.ref C) "__init__" = some (some (.ref fI))) (tI : PySem.W.typeIn K (.ref fI) = some (.type "function"))
    (hb : iniB slf fs (defBody st) = true) (S : FnScope (slf :: fs) (slf :: fs) (defScope st)) (hv : visA (defScope st) (slf :: fs) = true)
    (lk : K.lookup fI = some ⟨oc, od, .func (PySem.W.fnOf "__init__" qual (defArgs st) (defBody st) (defScope st) .none kV doc pm an cdv ct), osl⟩) (hcd : PySem.W.codeIn K cdv qual = true)
    (hbi : ∀ (kV doc pm : Value) (an : Option Addr) (cdv ct : Value) (us : List Value), us.length = (slf :: fs).length → bindArgs (PySem.W.fnOf "__init__" qual (defArgs st) (defBody st) (defScope st) .none kV doc pm an cdv ct) ⟨us, []⟩ = pure ((slf :: fs).zip us)) : ClsX P w K mg base ⟨nm, fs, true⟩ := by
  refine ⟨C, hm, F, hf, ?_⟩
  rw [if_pos rfl]
  exact ⟨⟨⟨_, _, _, _, _, _, _, _, _, _, _, _, _, _, _, lc, rv⟩, sa, F.ex, tC, kC⟩, fI, _, slf, iI, tI, .all (hbi kV doc pm an cdv ct), ini_fn hb S hv lk hcd⟩
theorem cls_own {P : Program} {w : World} {K : PySem.W.Frag} {mg : Str → Option Value} {base : Heap} {C : Addr} {nm : Str} (hm : mg nm = some (.ref C)) (F : ClsF K C) (q : PySem.W.excIn K C veL "ValueError.__new__" = true) (tC : PySem.W.typeIn K (.ref C) = some (.type "type")) (kC : PySem.W.keepIn K (.ref C) = true) :
    ClsX P w K mg base ⟨nm, [], false⟩ := by
  refine ⟨C, hm, F, fun f hf => (by cases hf), ?_⟩
  rw [if_neg (show ¬ (false = true) by decide)]
  exact ⟨q, kC, tC⟩
/-- the class C, as a thing that is asked for -/
structure AskC (K : PySem.W.Frag) (C : Addr) : Prop where
  cl : PySem.W.isClsIn K C = true
  ty : PySem.W.typeIn K (.ref C) = some (.type "type")
  ex : PySem.W.subIn K (.ref C) (.type "BaseException") = some true
  me : PySem.W.subIn K (.ref C) (.ref C) = some true
theorem ask_kit {K : PySem.W.Frag} {C D : Addr} {b : Bool} (A : AskC K D) (h : PySem.W.subIn K (.ref C) (.ref D) = some b) : PySem.W.kitCls K (.ref C) (.ref D) = some b := by
  have e : ((PySem.W.clsIn K D).isSome && PySem.W.typeIn K (.ref D) == some (.type "type")) = true := by
    rw [A.ty]
    have := A.cl
    unfold PySem.W.isClsIn at this
    rw [this]
    rfl
  show (if ((PySem.W.clsIn K D).isSome && PySem.W.typeIn K (.ref D) == some (.type "type")) = true then PySem.W.subIn K (.ref C) (.ref D) else none) = some b
  rw [if_pos e]
  exact h
theorem ask_one {K : PySem.W.Frag} {C D : Addr} {b : Bool} (A : AskC K D) (h : PySem.W.subIn K (.ref C) (.ref D) = some b) : PySem.W.exmOne K (.ref C) (.ref D) = some b ∧ PySem.W.kitOne K (.ref C) (.ref D) = some b := by
  have k := ask_kit A h
  constructor
  · unfold PySem.W.exmOne
    rw [A.ex, if_pos (by rfl)]
    exact k
  · unfold PySem.W.kitOne
    split
    · rename_i e
      have e : C = D := Value.ref.inj (beq_iff_eq.mp e)
      subst e
      rw [A.me] at h
      cases h
      rfl
    · exact k
theorem ask_ve {K : PySem.W.Frag} {C : Addr} {b : Bool} (h : PySem.W.subIn K (.ref C) (.type "ValueError") = some b) (h2 : PySem.W.subIn K (.type "ValueError") (.type "BaseException") = some true) : PySem.W.exmOne K (.ref C) (.type "ValueError") = some b ∧ PySem.W.kitOne K (.ref C) (.type "ValueError") = some b := by
  have k : PySem.W.kitCls K (.ref C) (.type "ValueError") = some b := by
    show (if PySem.W.kitMeta "ValueError" = true then PySem.W.subIn K (.ref C) (.type "ValueError") else none) = some b
    rw [if_pos (show PySem.W.kitMeta "ValueError" = true by decide +kernel)]
    exact h
  constructor
  · unfold PySem.W.exmOne
    rw [h2, if_pos (by rfl)]
    exact k
  · unfold PySem.W.kitOne
    split
    · rename_i e
      cases beq_iff_eq.mp e
    · exact k
/-! ### a def that is handed the exception -/
def xfB (sub : List (Str × Str × Bool)) (c : Str) (b : Bool) (y : Str) (as bs : List Str) (st : Stmt) : Bool :=
  othB y as bs (defBody st) && visB ((defScope st).names.lookup y) && nmOk y && giB ((defScope st).names.lookup ("isinstance" : Str)) && decide (as.length ≤ 1000) && decide (bs.length ≤ 1000) &&
    ((as ++ bs).all fun z => giB ((defScope st).names.lookup z) && nmOk z && decide ((c, z, decide ((c, z, true) ∈ sub)) ∈ sub)) && ((as ++ bs).any fun z => decide ((c, z, true) ∈ sub)) == b
theorem xf_mk {P : Program} {w : World} {K : PySem.W.Frag} {h : Heap} {mg : Str → Option Value} {base : Heap} {sub : List (Str × Str × Bool)} (X : K.In h) (G : h.Ns mainGlobals mg) (hs : ∀ c d b, (c, d, b) ∈ sub → SubX K mg c d b) {nm c : Str} {st : Stmt} {y : Str} {as bs : List Str} {b : Bool} {C f : Addr} {oc kV dc pm cd ct : Value} {od an : Option Addr} {sl : Array (Option Value)}
    (a : PySem.W.nsIn K mainGlobals nm = some (some (.ref f))) (l : K.lookup f = some ⟨oc, od, .func (PySem.W.fnOf nm nm (defArgs st) (defBody st) (defScope st) .none kV dc pm an cd ct), sl⟩)
    (cc : PySem.W.codeIn K cd nm = true) (k : PySem.W.keepIn K (.ref f) = true)
    (hb : ∀ (kV doc pm : Value) (an : Option Addr) (cdv ct : Value) (us : List Value), us.length = [y].length → bindArgs (PySem.W.fnOf nm nm (defArgs st) (defBody st) (defScope st) .none kV doc pm an cdv ct) ⟨us, []⟩ = pure ([y].zip us))
    (S : FnScope [y] [y] (defScope st)) (hm : mg "isinstance" = none) (hc : mg c = some (.ref C)) (FC : ClsF K C) (chk : xfB sub c b y as bs st = true) : XfX P w K mg base nm c b := by
  have F := fun_mk (st := st) l cc k
  unfold xfB at chk
  simp only [Bool.and_eq_true, decide_eq_true_eq, beq_iff_eq] at chk
  obtain ⟨⟨⟨⟨⟨⟨⟨h1, h2⟩, h3⟩, h4⟩, h5⟩, h6⟩, h7⟩, h8⟩ := chk
  rw [List.all_eq_true] at h7
  refine ⟨f, _, y, C, PySem.W.mg_of X G a, k, .all (hb kV dc pm an cd ct), hc, ?_⟩
  rw [← h8]
  refine fnZ_mk F S h1 h2 (nmOk_d h3).1 (nmOk_d h3).2 h4 hm FC ⟨h5, h6⟩ fun z hz => ?_
  have := h7 z hz
  simp only [Bool.and_eq_true, decide_eq_true_eq] at this
  obtain ⟨⟨g1, g2⟩, g3⟩ := this
  obtain ⟨C2, V, m2, _, nv, _, kk⟩ := hs _ _ _ g3
  rw [hc] at m2
  cases m2
  exact ⟨g1, (nmOk_d g2).1, V, nv, kk⟩
def spLaw (K : PySem.W.Frag) : Sp := fun vs H Q _ => ∃ (a : Addr) (ns : List Int), vs = [.ref a] ∧ SqL K H a (ns.map V.int) ∧ ns.length ≤ 63 ∧ ∀ H', Q (.bl true) H'
theorem law_imp {defs : Nat → Option Def} {k f : Nat} {mg : Str → Option Value} {K : PySem.W.Frag} (h : ∀ ns : List Int, ns.length ≤ 63 → ∃ μ, callI defs k f [.t (.scr ns)] [] = .ok (.t (.bl true)) μ) : ∀ vs H Q E, spLaw K vs H Q E → spF mg K (callI defs k) f vs H Q E := by
  rintro vs H Q E ⟨a, ns, rfl, hs, hl, q⟩
  obtain ⟨μ, e⟩ := h ns hl
  refine ⟨[.t (.scr ns)], [], H, [], ⟨Same.refl _, rfl, List.nodup_nil, fun a z => by simp at z, fun c a cl z => by simp at z⟩, ?_, ?_⟩
  · simp only [reps, rep, repT]
    exact ⟨.ref a, [], rfl, ⟨a, rfl, hs⟩, rfl⟩
  · rw [e]
    intro v H' H0' m' _ _ r
    rw [rep_bl.mp r]
    exact q H'
theorem law_tab {tbl : List Ent} {blts : List Str} {glo : List (Str × T)} {cls : List ClsI} {sub xf : List (Str × Str × Bool)} {wks : List Nat} {P : Program} {w : World} {K : PySem.W.Frag} {mg : Str → Option Value} {fa : Addr} {k f : Nat} {e : Ent} {x : Str} (ok : ∀ i e, tbl[i]? = some e → EntOk (sigB (sigOf tbl blts glo cls sub xf) wks (wks.contains i)) e) (at_ : ∀ e ∈ tbl, EntAt K mg e)
    (hb : ∀ x ∈ blts, mg x = none) (hg : ∀ x t, (x, t) ∈ glo → ∃ u, mg x = some u ∧ relG t u) (hc : ∀ base : Heap, ∀ c ∈ cls, ClsX P w K mg base c) (hs : ∀ c d b, (c, d, b) ∈ sub → SubX K mg c d b) (hx : ∀ (base : Heap), ∀ f c b, (f, c, b) ∈ xf → XfX P w K mg base f c b) (he : tbl[f]? = some e) (hps : e.ps = [x]) (hfa : mg e.nm = some (.ref fa)) (h : ∀ ns : List Int, ns.length ≤ 63 → ∃ μ, callI (defsOf tbl) k f [.t (.scr ns)] [] = .ok (.t (.bl true)) μ) :
    ∃ fd : FuncData, (∀ (s : Shared) (u : Value), BindsTo s fd ⟨[u], []⟩ [(x, u)]) ∧ ∀ base : Heap, FnOk P w K mg base (CXB (wks.contains f) P w) (k + 2) fa fd [x] (spLaw K) := by
  obtain ⟨a, fd, F, m, b⟩ := (at_ e (List.mem_of_getElem? he)).at_
  rw [hfa] at m
  cases m
  rw [hps] at b
  refine ⟨fd, fun s u => .of_eq (b [u] rfl), fun base => ?_⟩
  have T := tab_ok (P := P) (w := w) (base := base) ok at_ hb hg (hc base) hs (hx base) k f e fa fd he F
  rw [hps] at T
  exact T.imp (law_imp h)
end MI
/-! MIP: reasoning about the interpreter. -/
namespace MI
open PySem PySem.Spec PyProof.Rows L2

noncomputable def fin (md : Md) (μ0 : Mem) : Option (Out × Mem) → R D
  | some (.rt x, μ') => leave md μ0 x μ'
  | some (.nx _, μ') => leave md μ0 (.t .non) μ'
  | some (.ex x _, μ') => leaveX μ0 x μ'
  | _ => .no
theorem callI_succ {defs : Nat → Option Def} {k f : Nat} {ds : List D} {μ : Mem} {d : Def} (h : defs f = some d) (hl : ds.length = d.ar) : callI defs (k + 1) f ds μ = fin d.md μ (evSs (callI defs k) d.body (ds.map some ++ List.replicate (d.n - d.ar) none) μ) := by
  unfold callI
  rw [h]
  simp only [if_pos hl]
  unfold fin
  rfl
theorem callI_at {defs : Nat → Option Def} {k n f : Nat} (h : n + 1 ≤ k) : ∃ k', k = k' + 1 ∧ n ≤ k' := ⟨k - 1, by omega, by omega⟩
section
variable {α β : Type}
theorem bnd_ap (x : M α) (f : α → M β) (μ : Mem) : bnd x f μ = match x μ with
  | .ok a μ' => f a μ'
  | .ex e μ' => .ex e μ'
  | .no => .no := rfl
theorem pur_ap (a : α) (μ : Mem) : pur a μ = .ok a μ := rfl
theorem lift_ap (x : M α) (env : Envv) (f : α → MO) (μ : Mem) : lift x env f μ = match x μ with
  | .ok a μ' => f a μ'
  | .ex e μ' => some (.ex e env, μ')
  | .no => none := rfl
theorem outO_ap (o : Out) (μ : Mem) : outO o μ = some (o, μ) := rfl
theorem andThen_ap (x : MO) (f : Envv → MO) (μ : Mem) : andThen x f μ = match x μ with
  | some (.nx env, μ') => f env μ'
  | some (o, μ') => some (o, μ')
  | none => none := rfl
theorem toB_ap (b : Bool) (μ : Mem) : toB (.t (.bl b)) μ = .ok b μ := rfl
theorem ite_ap {c : Prop} [Decidable c] (x y : M α) (μ : Mem) : (if c then x else y) μ = if c then x μ else y μ := by split <;> rfl
theorem ite_apO {c : Prop} [Decidable c] (x y : MO) (μ : Mem) : (if c then x else y) μ = if c then x μ else y μ := by split <;> rfl
end
/-! ### numbers -/
theorem bI_add (i j : Int) : binI .add i j = some (i + j) := rfl
theorem bI_sub (i j : Int) : binI .sub i j = some (i - j) := rfl
theorem bI_mulr (i j : Int) (h1 : -18446744073709551616 < j) (h2 : j < 18446744073709551616) : binI .mul i j = some (i * j) := by
  have h : (inR i || inR j) = true := by
    simp only [inR, Bool.or_eq_true, Bool.and_eq_true, decide_eq_true_eq]
    exact .inr ⟨h1, h2⟩
  simp only [binI]
  rw [ifC_pos h]
theorem bI_mull (i j : Int) (h1 : -18446744073709551616 < i) (h2 : i < 18446744073709551616) : binI .mul i j = some (i * j) := by
  have h : (inR i || inR j) = true := by
    simp only [inR, Bool.or_eq_true, Bool.and_eq_true, decide_eq_true_eq]
    exact .inl ⟨h1, h2⟩
  simp only [binI]
  rw [ifC_pos h]
theorem bI_fdiv (i j : Int) (h1 : 0 < j) (h2 : j < 1073741824) : binI .fdiv i j = some (i / j) := by
  simp only [binI]
  rw [ifC_pos ⟨h1, h2⟩]
theorem bI_mod (i j : Int) (h1 : 0 < j) : binI .mod i j = some (i % j) := by
  simp only [binI]
  rw [if_pos h1]
theorem bI_p6 : binI .pow 10 6 = some 1000000 := by decide +kernel
theorem bI_p9 : binI .pow 10 9 = some 1000000000 := by decide +kernel
theorem bI_p10 : binI .pow 10 10 = some 10000000000 := by decide +kernel
theorem bI_p12 : binI .pow 10 12 = some 1000000000000 := by decide +kernel
theorem bI_p18 : binI .pow 10 18 = some 1000000000000000000 := by decide +kernel
theorem bI_p20 : binI .pow 10 20 = some 100000000000000000000 := by decide +kernel
theorem bI_p30 : binI .pow 10 30 = some 1000000000000000000000000000000 := by decide +kernel
theorem rngM0_ok (j : Int) (μ : Mem) (h1 : -4611686018427387904 ≤ j) (h2 : j < 4611686018427387904) : rngM0 j μ = .ok (rngD 0 j.toNat, []) μ := by
  unfold rngM0
  rw [if_pos]
  unfold inRg
  omega
theorem rngM_ok (i j : Int) (μ : Mem) (h1 : -4611686018427387904 ≤ i) (h2 : i < 4611686018427387904) (h3 : -4611686018427387904 ≤ j) (h4 : j < 4611686018427387904) : rngM i j μ = .ok (rngD i (j - i).toNat, []) μ := by
  unfold rngM
  rw [if_pos]
  unfold inRg
  omega
/-! ### memory -/
theorem getA (μ ν : Mem) (i : Nat) : (μ ++ ν)[μ.length + i]? = ν[i]? := by
  rw [List.getElem?_append_right (by omega)]
  congr 1
  omega
theorem getA0 (μ ν : Mem) : (μ ++ ν)[μ.length]? = ν[0]? := getA μ ν 0
theorem setA (μ ν : Mem) (i : Nat) (c : Cell) : (μ ++ ν).set (μ.length + i) c = μ ++ ν.set i c := by
  rw [List.set_append_right _ _ (by omega)]
  congr 2
  omega
theorem setA0 (μ ν : Mem) (c : Cell) : (μ ++ ν).set μ.length c = μ ++ ν.set 0 c := setA μ ν 0 c
theorem getL {μ ν : Mem} {i : Nat} {c : Cell} (h : μ[i]? = some c) : (μ ++ ν)[i]? = some c := by
  rw [List.getElem?_append_left (List.getElem?_eq_some_iff.mp h).1]
  exact h
/-! ### the way back -/
theorem back_app (μ ν : Mem) : OkBack μ (μ ++ ν) := ⟨by simp, fun c hc => .inl (List.getElem?_append_left hc)⟩
theorem back_refl (μ : Mem) : OkBack μ μ := ⟨Nat.le_refl _, fun _ _ => .inl rfl⟩
theorem back_set {μ μ1 : Mem} (h : OkBack μ μ1) (c : Nat) {cl : Cell} (hT : cellT cl = true) : OkBack μ (μ1.set c cl) := ⟨by simpa using h.1, fun j hj => by
  by_cases e : c = j
  · subst e
    exact .inr ⟨cl, by rw [List.getElem?_set_self (Nat.lt_of_lt_of_le hj h.1)], hT⟩
  · rw [List.getElem?_set_ne e]
    exact h.2 j hj⟩
theorem back_more {μ μ1 : Mem} (h : OkBack μ μ1) (ν : Mem) : OkBack μ (μ1 ++ ν) := ⟨by have := h.1; simp; omega, fun j hj => by
  rw [List.getElem?_append_left (Nat.lt_of_lt_of_le hj h.1)]
  exact h.2 j hj⟩
theorem leave_m {μ μ1 ν : Mem} {t : T} (h : OkBack μ μ1) (hl : μ1.length = μ.length) : leave .frz μ (.t t) (μ1 ++ ν) = .ok (.t t) μ1 := by
  unfold leave
  rw [if_pos (back_more h ν)]
  simp only [frzD]
  rw [← hl, List.take_left]
theorem leave_m0 {μ μ1 : Mem} {t : T} (h : OkBack μ μ1) (hl : μ1.length = μ.length) : leave .frz μ (.t t) μ1 = .ok (.t t) μ1 := by
  have := leave_m (ν := []) (t := t) h hl
  rwa [List.append_nil] at this
theorem leave_t (μ ν : Mem) (t : T) : leave .frz μ (.t t) (μ ++ ν) = .ok (.t t) μ := leave_m (back_refl μ) rfl
theorem leave_t0 (μ : Mem) (t : T) : leave .frz μ (.t t) μ = .ok (.t t) μ := leave_m0 (back_refl μ) rfl
theorem leave_set {μ : Mem} {c : Nat} {cl : Cell} {t : T} (hT : cellT cl = true) : leave .frz μ (.t t) (μ.set c cl) = .ok (.t t) (μ.set c cl) := leave_m0 (back_set (back_refl μ) c hT) (by simp)
theorem mapM_t (μ : Mem) (n k : Nat) (ts : List T) : (ts.map D.t).mapM (frzD μ n k) = some ts := by
  induction ts with
  | nil => rfl
  | cons t ts ih =>
    rw [List.map_cons, List.mapM_cons, ih]
    cases k <;> rfl
theorem mapM_kt (μ : Mem) (n k : Nat) {κ : Type} (ts : List (κ × T)) : ((ts.map fun p => (p.1, D.t p.2)).mapM fun (p : κ × D) => (frzD μ n k p.2).map fun x => (p.1, x)) = some ts := by
  induction ts with
  | nil => rfl
  | cons t ts ih =>
    rw [List.map_cons, List.mapM_cons, ih]
    cases k <;> rfl
theorem frzD_lst {μ : Mem} {n k c : Nat} {ts : List T} (hn : n ≤ c) (h : μ[c]? = some (.lst (ts.map D.t))) : frzD μ n (k + 1) (.ref c) = some (.lst ts) := by
  simp only [frzD, if_pos hn, h]
  have := mapM_t μ n k ts
  simp only [this, Option.map_some]
theorem frzD_dct {μ : Mem} {n k c : Nat} {ts : List (Key × T)} (hn : n ≤ c) (h : μ[c]? = some (.dct (ts.map fun p => (p.1, D.t p.2)))) : frzD μ n (k + 1) (.ref c) = some (.dct ts) := by
  simp only [frzD, if_pos hn, h]
  have := mapM_kt μ n k ts
  simp only [this, Option.map_some]
/-- a new list, frozen -/
theorem leave_l (μ ν : Mem) (i : Nat) (ts : List T) (h : ν[i]? = some (.lst (ts.map D.t))) : leave .frz μ (.ref (μ.length + i)) (μ ++ ν) = .ok (.t (.lst ts)) μ := by
  unfold leave
  rw [if_pos (back_app μ ν)]
  simp only [frzD_lst (k := 3) (Nat.le_add_right μ.length i) ((getA μ ν i).trans h), List.take_left]
theorem leave_l0 (μ ν : Mem) (ts : List T) (h : ν[0]? = some (.lst (ts.map D.t))) : leave .frz μ (.ref μ.length) (μ ++ ν) = .ok (.t (.lst ts)) μ := leave_l μ ν 0 ts h
theorem leave_d (μ ν : Mem) (i : Nat) (ts : List (Key × T)) (h : ν[i]? = some (.dct (ts.map fun p => (p.1, D.t p.2)))) : leave .frz μ (.ref (μ.length + i)) (μ ++ ν) = .ok (.t (.dct ts)) μ := by
  unfold leave
  rw [if_pos (back_app μ ν)]
  simp only [frzD_dct (k := 3) (Nat.le_add_right μ.length i) ((getA μ ν i).trans h), List.take_left]
theorem leave_d0 (μ ν : Mem) (ts : List (Key × T)) (h : ν[0]? = some (.dct (ts.map fun p => (p.1, D.t p.2)))) : leave .frz μ (.ref μ.length) (μ ++ ν) = .ok (.t (.dct ts)) μ := leave_d μ ν 0 ts h
/-- a new list, the caller's -/
theorem leave_c (μ ν : Mem) (i : Nat) (ts : List T) (h : ν[i]? = some (.lst (ts.map D.t))) : leave .cell μ (.ref (μ.length + i)) (μ ++ ν) = .ok (.ref μ.length) (μ ++ [.lst (ts.map D.t)]) := by
  unfold leave
  rw [if_pos (back_app μ ν)]
  simp only [if_pos (Nat.le_add_right μ.length i), getA, h]
  rw [if_pos (by simp [cellT, isT]), List.take_left]
theorem leave_c0 (μ ν : Mem) (ts : List T) (h : ν[0]? = some (.lst (ts.map D.t))) : leave .cell μ (.ref μ.length) (μ ++ ν) = .ok (.ref μ.length) (μ ++ [.lst (ts.map D.t)]) := leave_c μ ν 0 ts h
/-! ### views, by what is seen -/
theorem lO_lst (μ : Mem) (ts : List T) : lstOf μ (.t (.lst ts)) = some (ts.map D.t) := rfl
theorem lO_scr (μ : Mem) (ns : List Int) : lstOf μ (.t (.scr ns)) = some (ns.map fun n => D.t (.int n)) := rfl
theorem lO_tup (μ : Mem) (ts : List T) : lstOf μ (.t (.tup ts)) = none := rfl
theorem lO_dct (μ : Mem) (ts : List (Key × T)) : lstOf μ (.t (.dct ts)) = none := rfl
theorem lO_int (μ : Mem) (i : Int) : lstOf μ (.t (.int i)) = none := rfl
theorem lO_str (μ : Mem) (x : Str) : lstOf μ (.t (.str x)) = none := rfl
theorem lO_non (μ : Mem) : lstOf μ (.t .non) = none := rfl
theorem lO_bl (μ : Mem) (b : Bool) : lstOf μ (.t (.bl b)) = none := rfl
theorem lO_tp (μ : Mem) (ds : List D) : lstOf μ (.tp ds) = none := rfl
theorem lO_ref (μ : Mem) (c : Nat) : lstOf μ (.ref c) = (match μ[c]? with
    | some (.lst ds) => some ds
    | _ => none) := rfl
theorem tuO_tup (ts : List T) : tupOf (.t (.tup ts)) = some (ts.map D.t) := rfl
theorem tuO_tp (ds : List D) : tupOf (.tp ds) = some ds := rfl
theorem dO_lst (μ : Mem) (ts : List T) : dctOf μ (.t (.lst ts)) = none := rfl
theorem dO_tup (μ : Mem) (ts : List T) : dctOf μ (.t (.tup ts)) = none := rfl
theorem dO_dct (μ : Mem) (kts : List (Key × T)) : dctOf μ (.t (.dct kts)) = some (kts.map fun p => (p.1, D.t p.2)) := rfl
theorem dO_ref (μ : Mem) (c : Nat) : dctOf μ (.ref c) = (match μ[c]? with
    | some (.dct kds) => some kds
    | _ => none) := rfl
theorem dTO_lst (μ : Mem) (ts : List T) : dctTOf μ (.t (.lst ts)) = none := rfl
theorem dTO_tup (μ : Mem) (ts : List T) : dctTOf μ (.t (.tup ts)) = none := rfl
theorem dTO_dcT (μ : Mem) (kts : List (List Key × T)) : dctTOf μ (.t (.dcT kts)) = some (kts.map fun p => (p.1, D.t p.2)) := rfl
theorem dTO_ref (μ : Mem) (c : Nat) : dctTOf μ (.ref c) = (match μ[c]? with
    | some (.dcT kds) => some kds
    | _ => none) := rfl
theorem tO_non (μ : Mem) : tyOf μ (.t .non) = some .non := rfl
theorem tO_bl (μ : Mem) (b : Bool) : tyOf μ (.t (.bl b)) = some .bl := rfl
theorem tO_int (μ : Mem) (i : Int) : tyOf μ (.t (.int i)) = some .int := rfl
theorem tO_str (μ : Mem) (x : Str) : tyOf μ (.t (.str x)) = some .str := rfl
theorem tO_lst (μ : Mem) (ts : List T) : tyOf μ (.t (.lst ts)) = some .lst := rfl
theorem tO_tup (μ : Mem) (ts : List T) : tyOf μ (.t (.tup ts)) = some .tup := rfl
theorem tO_dct (μ : Mem) (ts : List (Key × T)) : tyOf μ (.t (.dct ts)) = some .dct := rfl
theorem tO_tp (μ : Mem) (ds : List D) : tyOf μ (.tp ds) = some .tup := rfl
theorem tO_ref (μ : Mem) (c : Nat) : tyOf μ (.ref c) = (match μ[c]? with
    | some (.lst _) => some .lst
    | some (.dct _) => some .dct
    | some (.dcT _) => some .dct
    | _ => none) := rfl
theorem wL_ref (c : Nat) (ds : List D) : watchL (.ref c) ds = [(c, ds)] := rfl
theorem wL_t (t : T) (ds : List D) : watchL (.t t) ds = [] := rfl
/-! ### while -/
theorem whl_true {c : Envv → M Bool} {b : Envv → MO} {n : Nat} {env env1 : Envv} {μ μ1 μ2 : Mem} (hc : c env μ = .ok true μ1) (hb : b env μ1 = some (.nx env1, μ2)) : whlLoop c b (n + 1) env μ = whlLoop c b n env1 μ2 := by
  simp only [whlLoop, lift, hc, if_true, hb]
theorem whl_false {c : Envv → M Bool} {b : Envv → MO} {n : Nat} {env : Envv} {μ μ1 : Mem} (hc : c env μ = .ok false μ1) : whlLoop c b (n + 1) env μ = some (.nx env, μ1) := by
  simp only [whlLoop, lift, hc, Bool.false_eq_true, if_false, outO]
/-! ### lists -/
theorem mkL_t (ts : List T) (μ : Mem) (h : ts.length ≤ sizeLine) : mkL true (ts.map D.t) μ = .ok (.t (.lst ts)) μ := by
  unfold mkL
  rw [if_pos (by simpa using h)]
  simp [toTs_of]
theorem mkL_c (ds : List D) (μ : Mem) (h : ds.length ≤ sizeLine) : mkL false ds μ = .ok (.ref μ.length) (μ ++ [.lst ds]) := by
  unfold mkL
  rw [if_pos h]
theorem mkTup_t (ts : List T) (μ : Mem) (h : ts.length ≤ sizeLine) : mkTup (ts.map D.t) μ = .ok (.t (.tup ts)) μ := by
  unfold mkTup
  rw [if_pos (by simpa using h), toTs_of]
theorem toIs_of (ns : List Int) : toIs (ns.map fun n => D.t (.int n)) = some ns := by
  induction ns with
  | nil => rfl
  | cons n ns ih => simp [toIs, ih]
theorem toIs_of' (ns : List Int) : toIs ((ns.map T.int).map D.t) = some ns := by
  rw [List.map_map]
  exact toIs_of ns
theorem toBs_of (ns : List Bool) : toBs ((ns.map T.bl).map D.t) = some ns := by
  induction ns with
  | nil => rfl
  | cons n ns ih => simp only [List.map_cons, toBs, ih, Option.map_some]
theorem small_line {n : Nat} (h : n ≤ 10000) : n ≤ sizeLine := by rw [sizeLine_eq]; omega
theorem small_line' {n : Nat} (h : n ≤ 10000) : n < sizeLine := by rw [sizeLine_eq]; omega
/-! ### loops -/
theorem wok_nil (μ : Mem) : WOk μ [] := fun p h => by cases h
theorem for_run {α : Type} {tg : Tg} {b : Envv → MO} {w : Watch} (g : α → D) (xs : List α) (P : List α → Envv → Mem → Prop) {env : Envv} {μ : Mem} (h0 : P [] env μ) (hw : ∀ pre env μ, P pre env μ → WOk μ w)
    (hs : ∀ pre x post env μ, xs = pre ++ x :: post → P pre env μ → ∃ env1, asgT tg (g x) env = some env1 ∧ ∃ env' μ', b env1 μ = some (.nx env', μ') ∧ P (pre ++ [x]) env' μ') :
    ∃ env' μ', forLoop tg b w (xs.map g) env μ = some (.nx env', μ') ∧ P xs env' μ' := by
  have main : ∀ (post pre : List α) (env : Envv) (μ : Mem), xs = pre ++ post → P pre env μ → ∃ env' μ', forLoop tg b w (post.map g) env μ = some (.nx env', μ') ∧ P xs env' μ' := by
    intro post
    induction post with
    | nil =>
      intro pre env μ e p
      rw [List.append_nil] at e
      subst e
      refine ⟨env, μ, ?_, p⟩
      simp only [List.map_nil, forLoop, if_pos (hw _ _ _ p)]
    | cons x post ih =>
      intro pre env μ e p
      obtain ⟨env1, e1, env', μ', e2, p'⟩ := hs pre x post env μ e p
      obtain ⟨env'', μ'', e3, p''⟩ := ih (pre ++ [x]) env' μ' (by rw [e]; simp) p'
      refine ⟨env'', μ'', ?_, p''⟩
      simp only [List.map_cons, forLoop, if_pos (hw _ _ _ p), e1, e2, e3]
  exact main xs [] env μ rfl h0
theorem comp_run {α : Type} {tg : Tg} {env : Envv} {c : Envv → M Bool} {el : Envv → M D} {w : Watch} (g : α → D) (xs : List α) (p : α → Bool) (f : α → T) {μ : Mem} (hw : WOk μ w)
    (h : ∀ x ∈ xs, ∃ env', asgT tg (g x) env = some env' ∧ c env' μ = .ok (p x) μ ∧ (p x = true → el env' μ = .ok (.t (f x)) μ)) (acc : List D) :
    compLoop tg env c el w (xs.map g) acc μ = .ok (acc ++ ((xs.filter p).map f).map D.t) μ := by
  induction xs generalizing acc with
  | nil => simp only [List.map_nil, compLoop, if_pos hw, List.filter_nil, List.append_nil]
  | cons x xs ih =>
    obtain ⟨env', e1, e2, e3⟩ := h x (by simp)
    have ih := fun acc => ih (fun y hy => h y (by simp [hy])) acc
    simp only [List.map_cons, compLoop, if_pos hw, e1, bnd, e2, noEx]
    cases hp : p x with
    | true => simp only [hp, if_true, List.filter_cons, List.map_cons, e3 hp, ih, List.append_assoc, List.singleton_append, bnd]
    | false => simp [hp, ih, List.filter_cons]
theorem comp_map {α : Type} {tg : Tg} {env : Envv} {c : Envv → M Bool} {el : Envv → M D} {w : Watch} (g : α → D) (xs : List α) (f : α → T) {μ : Mem} (hw : WOk μ w)
    (h : ∀ x ∈ xs, ∃ env', asgT tg (g x) env = some env' ∧ c env' μ = .ok true μ ∧ el env' μ = .ok (.t (f x)) μ) (acc : List D) :
    compLoop tg env c el w (xs.map g) acc μ = .ok (acc ++ (xs.map f).map D.t) μ := by
  have := comp_run (tg := tg) (env := env) (c := c) (el := el) (w := w) g xs (fun _ => true) f hw (fun x hx => let ⟨e, h1, h2, h3⟩ := h x hx; ⟨e, h1, h2, fun _ => h3⟩) acc
  rwa [List.filter_eq_self.mpr (fun _ _ => rfl)] at this
theorem ev_comp {α : Type} {F : Orac} {own : List (Str × Nat)} {tg : Tg} {it : It} {ifs : Es} {e : E} {env : Envv} {μ : Mem} {w : Watch} (g : α → D) (xs : List α) (p : α → Bool) (f : α → T) (hi : evI F it env μ = .ok (xs.map g, w) μ) (hl : xs.length ≤ sizeLine) (hw : WOk μ w)
    (h : ∀ x ∈ xs, ∃ env', asgT tg (g x) (wipeD env (own.map (·.2))) = some env' ∧ evC F ifs env' μ = .ok (p x) μ ∧ (p x = true → evE F e env' μ = .ok (.t (f x)) μ)) :
    evE F (.comp true own tg it ifs e) env μ = .ok (.t (.lst ((xs.filter p).map f))) μ := by
  have e1 := comp_run (tg := tg) (env := wipeD env (own.map (·.2))) (c := fun env => evC F ifs env) (el := fun env => evE F e env) (w := w) g xs p f hw h []
  simp only [evE, bnd_ap, hi, List.length_map, if_pos hl]
  rw [e1]
  simp only [List.nil_append]
  rw [mkL_t]
  exact Nat.le_trans (by rw [List.length_map]; exact List.length_filter_le _ _) hl
theorem ev_map {α : Type} {F : Orac} {own : List (Str × Nat)} {tg : Tg} {it : It} {e : E} {env : Envv} {μ : Mem} {w : Watch} (g : α → D) (xs : List α) (f : α → T) (hi : evI F it env μ = .ok (xs.map g, w) μ) (hl : xs.length ≤ sizeLine) (hw : WOk μ w)
    (h : ∀ x ∈ xs, ∃ env', asgT tg (g x) (wipeD env (own.map (·.2))) = some env' ∧ evE F e env' μ = .ok (.t (f x)) μ) :
    evE F (.comp true own tg it .nil e) env μ = .ok (.t (.lst (xs.map f))) μ := by
  have := ev_comp (own := own) (tg := tg) (it := it) (ifs := .nil) (e := e) g xs (fun _ => true) f hi hl hw (fun x hx => by
    obtain ⟨env', h1, h2⟩ := h x hx
    exact ⟨env', h1, by simp only [evC]; rfl, fun _ => h2⟩)
  rwa [List.filter_eq_self.mpr (fun _ _ => rfl)] at this
theorem ev_mapc {α : Type} {F : Orac} {own : List (Str × Nat)} {tg : Tg} {it : It} {e : E} {env : Envv} {μ : Mem} {w : Watch} (g : α → D) (xs : List α) (f : α → T) (hi : evI F it env μ = .ok (xs.map g, w) μ) (hl : xs.length ≤ sizeLine) (hw : WOk μ w)
    (h : ∀ x ∈ xs, ∃ env', asgT tg (g x) (wipeD env (own.map (·.2))) = some env' ∧ evE F e env' μ = .ok (.t (f x)) μ) :
    evE F (.comp false own tg it .nil e) env μ = .ok (.ref μ.length) (μ ++ [.lst ((xs.map f).map D.t)]) := by
  have e1 := comp_map (tg := tg) (env := wipeD env (own.map (·.2))) (c := fun env => evC F .nil env) (el := fun env => evE F e env) (w := w) g xs f hw (fun x hx => by
    obtain ⟨env', h1, h2⟩ := h x hx
    exact ⟨env', h1, by simp only [evC]; rfl, h2⟩) []
  simp only [evE, bnd_ap, hi, List.length_map, if_pos hl]
  rw [e1]
  simp only [List.nil_append]
  rw [mkL_c _ _ (by simpa using hl)]
theorem enumD_t : ∀ (ts : List T) (k : Nat), enumD k (ts.map D.t) = (ts.zipIdx k).map fun p => D.t (.tup [.int (p.2 : Nat), p.1])
  | [], _ => rfl
  | t :: ts, k => by
    simp only [List.map_cons, enumD, List.zipIdx_cons, enumD_t ts (k + 1)]
theorem zipD_t : ∀ (ts us : List T), List.zipWith pairD (ts.map D.t) (us.map D.t) = (ts.zip us).map fun p => D.t (.tup [p.1, p.2])
  | [], _ => rfl
  | _ :: _, [] => by simp
  | t :: ts, u :: us => by simp only [List.map_cons, List.zipWith_cons_cons, pairD, List.zip_cons_cons, zipD_t ts us]
theorem rngD_map : ∀ (n : Nat) (lo : Int), rngD lo n = (List.range n).map fun (i : Nat) => D.t (.int (lo + (i : Int)))
  | 0, _ => rfl
  | n + 1, lo => by
    rw [rngD, rngD_map n, List.range_succ_eq_map, List.map_cons, List.map_map]
    congr 1
    · simp
    · apply List.map_congr_left
      intro i _
      simp only [Function.comp_apply, Nat.succ_eq_add_one]
      congr 2
      omega
end MI
namespace My
open PySem PySem.Spec PyProof.Rows L2 MI
/-! the text of the program and the law, small -/
abbrev topS (i : Nat) : Stmt := PySem.Challenge.pw_touchall_k07_webs_beside.main.body.getD i (.Pass ⟨0, 0, 0, 0⟩)
abbrev F_law : Nat := 0
abbrev F_w_same : Nat := 1
abbrev F_w_met : Nat := 2
abbrev F_beside : Nat := 3
abbrev F_look_at_web : Nat := 4
abbrev F_bad_tie : Nat := 5
abbrev F_tie_stands : Nat := 6
abbrev F_is_pair : Nat := 7
abbrev F_is_whole : Nat := 8
abbrev F_bad_place : Nat := 9
abbrev F_place_stands : Nat := 10
abbrev F_numbers_in : Nat := 11
abbrev F_w_due : Nat := 12
abbrev F_w_met_k : Nat := 13
abbrev F_beside_k : Nat := 14
abbrev F_w_copy : Nat := 15
abbrev F_w_ties : Nat := 16
abbrev F_w_take : Nat := 17
abbrev F_w_dearer : Nat := 18
abbrev F_w_dealt_k : Nat := 19
abbrev F_w_begun_c : Nat := 20
abbrev F_w_places : Nat := 21
/-- law (frz) -/
def C_law_0 : E := (.comp true [("_law_web", 8)] (.nm 8) (.val (.var 4)) .nil (.call F_w_copy (.cons (.var 8) .nil)))
def C_law_1 : E := (.comp false [("_law_places_here", 5)] (.nm 5) (.val (.var 2)) .nil (.tup (.cons (.var 5) (.cons (.call F_w_ties (.cons (.var 1) (.cons (.var 5) (.cons (.var 3) .nil)))) .nil))))
def b_law : Ss := (.cons (.asg (.nm 1) (.call F_w_begun_c (.cons (.var 0) (.cons (.cst (.int 0)) .nil)))) (.cons (.asg (.nm 2) (.call F_w_dealt_k (.cons (.var 0) (.cons (.call F_w_places (.cons (.var 1) (.cons (.call F_w_take (.cons (.var 1) (.cons (.cst (.int 44)) .nil))) .nil))) .nil)))) (.cons (.xpr (.call F_w_dearer (.cons (.var 1) (.cons (.var 2) .nil)))) (.cons (.asg (.nm 3) (.cmp .eq (.call F_w_take (.cons (.var 1) (.cons (.cst (.int 3)) .nil))) (.cst (.int 0)))) (.cons (.asg (.nm 4) C_law_1) (.cons (.asg (.nm 6) (.call F_w_due (.cons (.ix (.var 4) (.cst (.int 0))) (.cons (.ix (.var 4) (.cst (.int 1))) .nil)))) (.cons (.asg (.nm 7) C_law_0) (.cons (.asg (.nm 9) (.call F_w_met_k (.cons (.ix (.var 7) (.cst (.int 0))) (.cons (.ix (.var 7) (.cst (.int 1))) .nil)))) (.cons (.ife (.or (.not (.call F_w_same (.cons (.var 9) (.cons (.var 6) .nil)))) (.not (.call F_w_same (.cons (.call F_w_met (.cons (.ix (.var 7) (.cst (.int 1))) (.cons (.ix (.var 7) (.cst (.int 0))) .nil))) (.cons (.var 6) .nil))))) (.cons (.ret (.cst (.bl false))) .nil) .nil) (.cons (.ife (.isi (.var 9) [.tup]) (.cons (.xpr (.mth .append (.ix (.var 9) (.cst (.int 0))) (.cons (.cst .non) .nil))) (.cons (.xpr (.mth .append (.ix (.var 9) (.cst (.int 1))) (.cons (.cst .non) .nil))) .nil)) .nil) (.cons (.asg (.nm 10) (.call F_w_due (.cons (.ix (.var 4) (.cst (.int 0))) (.cons (.ix (.var 4) (.cst (.int 0))) .nil)))) (.cons (.ife (.not (.call F_w_same (.cons (.call F_w_met (.cons (.ix (.var 7) (.cst (.int 0))) (.cons (.ix (.var 7) (.cst (.int 0))) .nil))) (.cons (.var 10) .nil)))) (.cons (.ret (.cst (.bl false))) .nil) .nil) (.cons (.ret (.and (.call F_w_same (.cons (.call F_w_met (.cons (.ix (.var 7) (.cst (.int 0))) (.cons (.ix (.var 7) (.cst (.int 1))) .nil))) (.cons (.var 6) .nil))) (.call F_w_same (.cons (.var 7) (.cons (.var 4) .nil))))) .nil)))))))))))))
def d0 : Def := ⟨1, 11, .frz, b_law⟩
abbrev e0 : Ent := ⟨"law", topS 47, ["_law_script", "_law_state", "_law_dealt_here", "_law_crowded", "_law_webs", "_law_places_here", "_law_due_here", "_law_handed", "_law_web", "_law_told", "_law_twice"], ["_law_script"], d0⟩
/-- _law_same (frz) -/
def C_w_same_0 : E := (.comp true [("_law_one", 2), ("_law_other", 3)] (.tp [(.nm 2), (.nm 3)]) (.zip (.var 0) (.var 1)) .nil (.call F_w_same (.cons (.var 2) (.cons (.var 3) .nil))))
def b_w_same : Ss := (.cons (.ife (.or (.isi (.var 1) [.lst]) (.isi (.var 1) [.tup])) (.cons (.ife (.and (.not (.isi (.var 0) [.lst])) (.not (.isi (.var 0) [.tup]))) (.cons (.ret (.cst (.bl false))) .nil) .nil) (.cons (.ife (.or (.cmp .ne (.isi (.var 0) [.lst]) (.isi (.var 1) [.lst])) (.cmp .ne (.bfn true .len (.cons (.var 0) .nil)) (.bfn true .len (.cons (.var 1) .nil)))) (.cons (.ret (.cst (.bl false))) .nil) .nil) (.cons (.ret (.bfn true .all (.cons C_w_same_0 .nil))) .nil))) .nil) (.cons (.ife (.cmp .isN (.var 1) (.cst .non)) (.cons (.ret (.cmp .isN (.var 0) (.cst .non))) .nil) .nil) (.cons (.ife (.or (.isi (.var 1) [.bl]) (.isi (.var 0) [.bl])) (.cons (.ret (.and (.isi (.var 1) [.bl]) (.and (.isi (.var 0) [.bl]) (.cmp .eq (.var 0) (.var 1))))) .nil) .nil) (.cons (.ife (.isi (.var 1) [.str]) (.cons (.ret (.and (.isi (.var 0) [.str]) (.cmp .eq (.var 0) (.var 1)))) .nil) .nil) (.cons (.ret (.and (.isi (.var 0) [.int]) (.cmp .eq (.var 0) (.var 1)))) .nil)))))
def d1 : Def := ⟨2, 4, .frz, b_w_same⟩
abbrev e1 : Ent := ⟨"_law_same", topS 39, ["_law_found", "_law_due_here", "_law_one", "_law_other"], ["_law_found", "_law_due_here"], d1⟩
/-- _law_met (frz) -/
def b_w_met : Ss := (.cons (.tryx (.cons (.asg (.nm 2) (.call F_beside (.cons (.var 0) (.cons (.var 1) .nil)))) .nil) "NoJoin" [("NoJoin", true), ("NoWeb", false)] (some 3) (.cons (.ret (.lst (.cons (.isi "TouchError" [("NoJoin", true), ("NoWeb", true)]) (.cons (.oth "_law_others" [("NoJoin", false)]) .nil)))) .nil)) (.cons (.ret (.var 2)) .nil))
def d2 : Def := ⟨2, 4, .frz, b_w_met⟩
abbrev e2 : Ent := ⟨"_law_met", topS 45, ["_law_one", "_law_other", "_law_told", "_law_e"], ["_law_one", "_law_other"], d2⟩
/-- beside (frz) -/
def L_beside_0 : Ss := (.cons (.ife (.cmp .mem (.var 2) (.call F_numbers_in (.cons (.var 0) .nil))) (.cons (.rsm "NoJoin" "a place is in both webs") .nil) .nil) .nil)
def b_beside : Ss := (.cons (.xpr (.call F_look_at_web (.cons (.var 0) .nil))) (.cons (.xpr (.call F_look_at_web (.cons (.var 1) .nil))) (.cons (.for (.nm 2) (.val (.call F_numbers_in (.cons (.var 1) .nil))) L_beside_0) (.cons (.asg (.nm 3) (.tup (.cons (.bfn true .sorted (.cons (.bin .add (.ix (.var 0) (.cst (.int 0))) (.ix (.var 1) (.cst (.int 0)))) .nil)) (.cons (.bfn true .sorted (.cons (.bin .add (.ix (.var 0) (.cst (.int 1))) (.ix (.var 1) (.cst (.int 1)))) .nil)) .nil)))) (.cons (.tryr (.call F_look_at_web (.cons (.var 3) .nil)) "NoWeb" [("NoJoin", false), ("NoWeb", true)] "NoJoin" "both together are no web") (.cons (.ret (.var 3)) .nil))))))
def d3 : Def := ⟨2, 4, .frz, b_beside⟩
abbrev e3 : Ent := ⟨"beside", topS 34, ["one", "other", "place", "both"], ["one", "other"], d3⟩
/-- look_at_web (frz) -/
def L_look_at_web_0 : Ss := (.cons (.setx (.var 4) (.var 5) (.var 6)) .nil)
def b_look_at_web : Ss := (.cons (.ife (.or (.not (.isi (.var 0) [.tup])) (.cmp .ne (.bfn true .len (.cons (.var 0) .nil)) (.cst (.int 2)))) (.cons (.rse "NoWeb" ["part", "number"] (.cons (.cst (.str "web")) (.cons (.cst .non) .nil))) .nil) .nil) (.cons (.asg (.tp [(.nm 1), (.nm 2)]) (.var 0)) (.cons (.ife (.or (.not (.isi (.var 1) [.lst])) (.cmp .gt (.bfn true .len (.cons (.var 1) .nil)) (.glo "MOST_PLACES" (.int 40)))) (.cons (.rse "NoWeb" ["part", "number"] (.cons (.cst (.str "places")) (.cons (.cst .non) .nil))) .nil) .nil) (.cons (.asg (.nm 3) (.call F_bad_place (.cons (.var 1) .nil))) (.cons (.ife (.cmp .notN (.var 3) (.cst .non)) (.cons (.rse "NoWeb" ["part", "number"] (.cons (.cst (.str "places")) (.cons (.var 3) .nil))) .nil) .nil) (.cons (.ife (.or (.not (.isi (.var 2) [.lst])) (.cmp .gt (.bfn true .len (.cons (.var 2) .nil)) (.glo "MOST_TIES" (.int 120)))) (.cons (.rse "NoWeb" ["part", "number"] (.cons (.cst (.str "ties")) (.cons (.cst .non) .nil))) .nil) .nil) (.cons (.asg (.nm 4) (.dnew false)) (.cons (.for (.tp [(.nm 5), (.nm 6)]) (.val (.var 1)) L_look_at_web_0) (.cons (.asg (.nm 3) (.call F_bad_tie (.cons (.var 2) (.cons (.var 4) .nil)))) (.cons (.ife (.cmp .notN (.var 3) (.cst .non)) (.cons (.rse "NoWeb" ["part", "number"] (.cons (.cst (.str "ties")) (.cons (.var 3) .nil))) .nil) .nil) .nil))))))))))
def d4 : Def := ⟨1, 7, .frz, b_look_at_web⟩
abbrev e4 : Ent := ⟨"look_at_web", topS 31, ["thing", "places", "ties", "bad", "known", "place", "price"], ["thing"], d4⟩
/-- bad_tie (frz) -/
def L_bad_tie_0 : Ss := (.cons (.ife (.not (.call F_tie_stands (.cons (.var 4) (.cons (.var 2) (.cons (.var 1) .nil))))) (.cons (.ret (.var 3)) .nil) .nil) (.cons (.asg (.nm 2) (.var 4)) .nil))
def b_bad_tie : Ss := (.cons (.asg (.nm 2) (.tup (.cons (.neg (.cst (.int 1))) (.cons (.neg (.cst (.int 1))) .nil)))) (.cons (.for (.tp [(.nm 3), (.nm 4)]) (.enm (.var 0)) L_bad_tie_0) (.cons (.ret (.cst .non)) .nil)))
def d5 : Def := ⟨2, 5, .frz, b_bad_tie⟩
abbrev e5 : Ent := ⟨"bad_tie", topS 30, ["things", "known", "before", "k", "thing"], ["things", "known"], d5⟩
/-- tie_stands (frz) -/
def b_tie_stands : Ss := (.cons (.ife (.not (.call F_is_pair (.cons (.var 0) .nil))) (.cons (.ret (.cst (.bl false))) .nil) .nil) (.cons (.ret (.and (.cmp .lt (.ix (.var 0) (.cst (.int 0))) (.ix (.var 0) (.cst (.int 1)))) (.and (.cmp .mem (.ix (.var 0) (.cst (.int 0))) (.var 2)) (.and (.cmp .mem (.ix (.var 0) (.cst (.int 1))) (.var 2)) (.cmp .lt (.var 1) (.var 0)))))) .nil))
def d6 : Def := ⟨3, 3, .frz, b_tie_stands⟩
abbrev e6 : Ent := ⟨"tie_stands", topS 28, ["thing", "before", "known"], ["thing", "before", "known"], d6⟩
/-- is_pair (frz) -/
def b_is_pair : Ss := (.cons (.ret (.and (.isi (.var 0) [.tup]) (.and (.cmp .eq (.bfn true .len (.cons (.var 0) .nil)) (.cst (.int 2))) (.and (.call F_is_whole (.cons (.ix (.var 0) (.cst (.int 0))) .nil)) (.call F_is_whole (.cons (.ix (.var 0) (.cst (.int 1))) .nil)))))) .nil)
def d7 : Def := ⟨1, 1, .frz, b_is_pair⟩
abbrev e7 : Ent := ⟨"is_pair", topS 26, ["thing"], ["thing"], d7⟩
/-- is_whole (frz) -/
def b_is_whole : Ss := (.cons (.ret (.and (.isi (.var 0) [.int]) (.not (.isi (.var 0) [.bl])))) .nil)
def d8 : Def := ⟨1, 1, .frz, b_is_whole⟩
abbrev e8 : Ent := ⟨"is_whole", topS 25, ["thing"], ["thing"], d8⟩
/-- bad_place (frz) -/
def L_bad_place_0 : Ss := (.cons (.ife (.not (.call F_place_stands (.cons (.var 4) (.cons (.var 1) (.cons (.var 2) .nil))))) (.cons (.ret (.var 3)) .nil) .nil) (.cons (.asg (.nm 1) (.ix (.var 4) (.cst (.int 0)))) (.cons (.asg (.nm 2) (.bin .add (.var 2) (.ix (.var 4) (.cst (.int 1))))) .nil)))
def b_bad_place : Ss := (.cons (.asg (.nm 1) (.neg (.cst (.int 1)))) (.cons (.asg (.nm 2) (.cst (.int 0))) (.cons (.for (.tp [(.nm 3), (.nm 4)]) (.enm (.var 0)) L_bad_place_0) (.cons (.ret (.cst .non)) .nil))))
def d9 : Def := ⟨1, 5, .frz, b_bad_place⟩
abbrev e9 : Ent := ⟨"bad_place", topS 29, ["things", "last", "paid", "k", "thing"], ["things"], d9⟩
/-- place_stands (frz) -/
def b_place_stands : Ss := (.cons (.ife (.not (.call F_is_pair (.cons (.var 0) .nil))) (.cons (.ret (.cst (.bl false))) .nil) .nil) (.cons (.ret (.and (.chn .lt .le (.var 1) (.ix (.var 0) (.cst (.int 0))) (.glo "LAST_PLACE" (.int 999))) (.chn .le .le (.cst (.int 1)) (.ix (.var 0) (.cst (.int 1))) (.bin .sub (.glo "MOST_PRICES" (.int 1000000000000)) (.var 2))))) .nil))
def d10 : Def := ⟨3, 3, .frz, b_place_stands⟩
abbrev e10 : Ent := ⟨"place_stands", topS 27, ["thing", "last", "paid"], ["thing", "last", "paid"], d10⟩
/-- numbers_in (frz) -/
def C_numbers_in_0 : E := (.comp true [("place", 1), ("price", 2)] (.tp [(.nm 1), (.nm 2)]) (.val (.ix (.var 0) (.cst (.int 0)))) .nil (.var 1))
def b_numbers_in : Ss := (.cons (.ret C_numbers_in_0) .nil)
def d11 : Def := ⟨1, 3, .frz, b_numbers_in⟩
abbrev e11 : Ent := ⟨"numbers_in", topS 32, ["web", "place", "price"], ["web"], d11⟩
/-- _law_due (frz) -/
def C_w_due_0 : E := (.comp true [("_law_place", 3), ("_law_price", 4)] (.tp [(.nm 3), (.nm 4)]) (.val (.var 6)) .nil (.var 4))
def C_w_due_1 : E := (.comp true [("_law_place", 3), ("_law_price", 4)] (.tp [(.nm 3), (.nm 4)]) (.val (.ix (.var 1) (.cst (.int 0)))) (.cons (.cmp .mem (.var 3) (.var 2)) .nil) (.var 3))
def C_w_due_2 : E := (.comp true [("_law_place", 3), ("_law_price", 4)] (.tp [(.nm 3), (.nm 4)]) (.val (.ix (.var 0) (.cst (.int 0)))) .nil (.var 3))
def b_w_due : Ss := (.cons (.asg (.nm 2) C_w_due_2) (.cons (.asg (.nm 5) C_w_due_1) (.cons (.asg (.nm 6) (.bfn true .sorted (.cons (.bin .add (.ix (.var 0) (.cst (.int 0))) (.ix (.var 1) (.cst (.int 0)))) .nil))) (.cons (.asg (.nm 7) (.bfn true .sorted (.cons (.bin .add (.ix (.var 0) (.cst (.int 1))) (.ix (.var 1) (.cst (.int 1)))) .nil))) (.cons (.asg (.nm 8) (.bfn true .sum (.cons C_w_due_0 .nil))) (.cons (.ife (.or (.cmp .ne (.var 5) (.lst true .nil)) (.or (.cmp .gt (.bfn true .len (.cons (.var 6) .nil)) (.cst (.int 40))) (.or (.cmp .gt (.bfn true .len (.cons (.var 7) .nil)) (.cst (.int 120))) (.cmp .gt (.var 8) (.bin .pow (.cst (.int 10)) (.cst (.int 12))))))) (.cons (.ret (.lst true (.cons (.cst (.bl true)) (.cons (.cst (.bl false)) .nil)))) .nil) .nil) (.cons (.ret (.tup (.cons (.var 6) (.cons (.var 7) .nil)))) .nil)))))))
def d12 : Def := ⟨2, 9, .frz, b_w_due⟩
abbrev e12 : Ent := ⟨"_law_due", topS 46, ["_law_one", "_law_other", "_law_numbers", "_law_place", "_law_price", "_law_common", "_law_places_here", "_law_ties_here", "_law_cost"], ["_law_one", "_law_other"], d12⟩
/-- _law_met (keep) -/
def b_w_met_k : Ss := (.cons (.tryx (.cons (.asg (.nm 2) (.call F_beside_k (.cons (.var 0) (.cons (.var 1) .nil)))) .nil) "NoJoin" [("NoJoin", true), ("NoWeb", false)] (some 3) (.cons (.ret (.lst (.cons (.isi "TouchError" [("NoJoin", true), ("NoWeb", true)]) (.cons (.oth "_law_others" [("NoJoin", false)]) .nil)))) .nil)) (.cons (.ret (.var 2)) .nil))
def d13 : Def := ⟨2, 4, .keep, b_w_met_k⟩
abbrev e13 : Ent := ⟨"_law_met", topS 45, ["_law_one", "_law_other", "_law_told", "_law_e"], ["_law_one", "_law_other"], d13⟩
/-- beside (keep) -/
def L_beside_k_0 : Ss := (.cons (.ife (.cmp .mem (.var 2) (.call F_numbers_in (.cons (.var 0) .nil))) (.cons (.rsm "NoJoin" "a place is in both webs") .nil) .nil) .nil)
def b_beside_k : Ss := (.cons (.xpr (.call F_look_at_web (.cons (.var 0) .nil))) (.cons (.xpr (.call F_look_at_web (.cons (.var 1) .nil))) (.cons (.for (.nm 2) (.val (.call F_numbers_in (.cons (.var 1) .nil))) L_beside_k_0) (.cons (.asg (.nm 3) (.tup (.cons (.bfn false .sorted (.cons (.bin .add (.ix (.var 0) (.cst (.int 0))) (.ix (.var 1) (.cst (.int 0)))) .nil)) (.cons (.bfn false .sorted (.cons (.bin .add (.ix (.var 0) (.cst (.int 1))) (.ix (.var 1) (.cst (.int 1)))) .nil)) .nil)))) (.cons (.tryr (.call F_look_at_web (.cons (.var 3) .nil)) "NoWeb" [("NoJoin", false), ("NoWeb", true)] "NoJoin" "both together are no web") (.cons (.ret (.var 3)) .nil))))))
def d14 : Def := ⟨2, 4, .keep, b_beside_k⟩
abbrev e14 : Ent := ⟨"beside", topS 34, ["one", "other", "place", "both"], ["one", "other"], d14⟩
/-- _law_copy (frz) -/
def b_w_copy : Ss := (.cons (.ret (.tup (.cons (.bfn true .list (.cons (.ix (.var 0) (.cst (.int 0))) .nil)) (.cons (.bfn true .list (.cons (.ix (.var 0) (.cst (.int 1))) .nil)) .nil)))) .nil)
def d15 : Def := ⟨1, 1, .frz, b_w_copy⟩
abbrev e15 : Ent := ⟨"_law_copy", topS 40, ["_law_web"], ["_law_web"], d15⟩
/-- _law_ties (frz) -/
def L_w_ties_0 : Ss := (.cons (.ife (.or (.var 2) (.cmp .lt (.call F_w_take (.cons (.var 0) (.cons (.cst (.int 5)) .nil))) (.var 7))) (.cons (.xpr (.mth .append (.var 6) (.cons (.tup (.cons (.ix (.var 3) (.var 8)) (.cons (.ix (.var 3) (.var 9)) .nil))) .nil))) .nil) .nil) .nil)
def L_w_ties_1 : Ss := (.cons (.for (.nm 9) (.rng2 (.bin .add (.var 8) (.cst (.int 1))) (.bfn true .len (.cons (.var 3) .nil))) L_w_ties_0) .nil)
def C_w_ties_2 : E := (.comp true [("_law_place", 4), ("_law_price", 5)] (.tp [(.nm 4), (.nm 5)]) (.val (.var 1)) .nil (.var 4))
def b_w_ties : Ss := (.cons (.asg (.nm 3) (.slc true C_w_ties_2 .none (.some (.cst (.int 12))))) (.cons (.asg (.nm 6) (.lst false .nil)) (.cons (.asg (.nm 7) (.bin .add (.cst (.int 1)) (.call F_w_take (.cons (.var 0) (.cons (.cst (.int 4)) .nil))))) (.cons (.for (.nm 8) (.rng1 (.bfn true .len (.cons (.var 3) .nil))) L_w_ties_1) (.cons (.ret (.slc true (.var 6) .none (.some (.bin .add (.cst (.int 57)) (.call F_w_take (.cons (.var 0) (.cons (.cst (.int 7)) .nil))))))) .nil)))))
def d16 : Def := ⟨3, 10, .frz, b_w_ties⟩
abbrev e16 : Ent := ⟨"_law_ties", topS 43, ["_law_state", "_law_places_here", "_law_crowded", "_law_numbers", "_law_place", "_law_price", "_law_ties_here", "_law_dense", "_law_k", "_law_j"], ["_law_state", "_law_places_here", "_law_crowded"], d16⟩
/-- _law_take (frz) -/
def b_w_take : Ss := (.cons (.ife (.ix (.var 0) (.cst (.int 2))) (.cons (.asg (.nm 2) (.bin .mod (.ix (.var 0) (.cst (.int 0))) (.var 1))) (.cons (.setx (.var 0) (.cst (.int 0)) (.bin .fdiv (.ix (.var 0) (.cst (.int 0))) (.var 1))) (.cons (.setx (.var 0) (.cst (.int 2)) (.cmp .gt (.ix (.var 0) (.cst (.int 0))) (.cst (.int 0)))) (.cons (.ret (.var 2)) .nil)))) .nil) (.cons (.setx (.var 0) (.cst (.int 1)) (.bin .mod (.bin .add (.bin .mul (.ix (.var 0) (.cst (.int 1))) (.cst (.int 48271))) (.cst (.int 39373))) (.cst (.int 2147483647)))) (.cons (.asg (.nm 3) (.bin .fdiv (.bin .mod (.bin .mul (.ix (.var 0) (.cst (.int 1))) (.ix (.var 0) (.cst (.int 1)))) (.cst (.int 2147483629))) (.cst (.int 16)))) (.cons (.ife (.cmp .gt (.var 1) (.bin .pow (.cst (.int 10)) (.cst (.int 6)))) (.cons (.setx (.var 0) (.cst (.int 1)) (.bin .mod (.bin .add (.bin .mul (.ix (.var 0) (.cst (.int 1))) (.cst (.int 48271))) (.cst (.int 39373))) (.cst (.int 2147483647)))) (.cons (.asg (.nm 3) (.bin .add (.bin .mul (.var 3) (.cst (.int 2147483629))) (.ix (.var 0) (.cst (.int 1))))) .nil)) .nil) (.cons (.ret (.bin .mod (.var 3) (.var 1))) .nil)))))
def d17 : Def := ⟨2, 4, .frz, b_w_take⟩
abbrev e17 : Ent := ⟨"_law_take", topS 37, ["_law_state", "_law_many", "_law_digit", "_law_number"], ["_law_state", "_law_many"], d17⟩
/-- _law_dearer (frz) -/
def C_w_dearer_0 : E := (.comp true [("_law_place", 3), ("_law_price", 4)] (.tp [(.nm 3), (.nm 4)]) (.val (.bin .add (.ix (.var 1) (.cst (.int 0))) (.ix (.var 1) (.cst (.int 1))))) .nil (.var 4))
def b_w_dearer : Ss := (.cons (.asg (.nm 2) (.bfn true .sum (.cons C_w_dearer_0 .nil))) (.cons (.ife (.or (.cmp .gt (.call F_w_take (.cons (.var 0) (.cons (.cst (.int 3)) .nil))) (.cst (.int 0))) (.or (.cmp .eq (.ix (.var 1) (.cst (.int 0))) (.lst true .nil)) (.cmp .eq (.ix (.var 1) (.cst (.int 1))) (.lst true .nil)))) (.cons .retN .nil) .nil) (.cons (.asg (.nm 5) (.ix (.var 1) (.call F_w_take (.cons (.var 0) (.cons (.cst (.int 2)) .nil))))) (.cons (.asg (.nm 6) (.call F_w_take (.cons (.var 0) (.cons (.bfn true .len (.cons (.var 5) .nil)) .nil)))) (.cons (.setx (.var 5) (.var 6) (.tup (.cons (.ix (.ix (.var 5) (.var 6)) (.cst (.int 0))) (.cons (.bin .add (.bin .sub (.bin .sub (.bin .add (.bin .pow (.cst (.int 10)) (.cst (.int 12))) (.cst (.int 1))) (.call F_w_take (.cons (.var 0) (.cons (.cst (.int 3)) .nil)))) (.var 2)) (.ix (.ix (.var 5) (.var 6)) (.cst (.int 1)))) .nil)))) .nil)))))
def d18 : Def := ⟨2, 7, .frz, b_w_dearer⟩
abbrev e18 : Ent := ⟨"_law_dearer", topS 42, ["_law_state", "_law_dealt_here", "_law_whole", "_law_place", "_law_price", "_law_some", "_law_at"], ["_law_state", "_law_dealt_here"], d18⟩
/-- _law_dealt (keep) -/
def L_w_dealt_k_0 : Ss := (.cons (.ife (.cmp .lt (.bfn true .len (.cons (.ix (.var 2) (.var 6)) .nil)) (.cst (.int 40))) (.cons (.xpr (.mth .append (.ix (.var 2) (.var 6)) (.cons (.ix (.var 1) (.var 3)) .nil))) .nil) .nil) .nil)
def L_w_dealt_k_1 : Ss := (.cons (.asg (.nm 4) (.call F_w_begun_c (.cons (.var 0) (.cons (.bin .add (.var 3) (.cst (.int 1))) .nil)))) (.cons (.asg (.nm 5) (.call F_w_take (.cons (.var 4) (.cons (.cst (.int 2)) .nil)))) (.cons (.for (.nm 6) (.val (.bin .add (.lst true (.cons (.var 5) .nil)) (.bin .mul (.lst true (.cons (.bin .sub (.cst (.int 1)) (.var 5)) .nil)) (.bfn true .int1 (.cons (.cmp .eq (.call F_w_take (.cons (.var 4) (.cons (.cst (.int 30)) .nil))) (.cst (.int 7))) .nil))))) L_w_dealt_k_0) .nil)))
def b_w_dealt_k : Ss := (.cons (.asg (.nm 2) (.lst false (.cons (.lst false .nil) (.cons (.lst false .nil) .nil)))) (.cons (.for (.nm 3) (.rng1 (.bfn true .len (.cons (.var 1) .nil))) L_w_dealt_k_1) (.cons (.ret (.var 2)) .nil)))
def d19 : Def := ⟨2, 7, .keep, b_w_dealt_k⟩
abbrev e19 : Ent := ⟨"_law_dealt", topS 41, ["_law_script", "_law_places_here", "_law_dealt_here", "_law_k", "_law_state", "_law_side", "_law_one"], ["_law_script", "_law_places_here"], d19⟩
/-- _law_begun (cell) -/
def b_w_begun_c : Ss := (.cons (.asg (.nm 2) (.cst (.int 0))) (.cons (.ife (.cmp .lt (.var 1) (.bfn true .len (.cons (.var 0) .nil))) (.cons (.asg (.nm 2) (.ix (.var 0) (.var 1))) .nil) .nil) (.cons (.asg (.nm 3) (.bin .add (.bin .add (.bin .mod (.var 2) (.cst (.int 2147483629))) (.bin .mul (.cst (.int 104729)) (.var 1))) (.bin .mul (.cst (.int 7919)) (.bin .fdiv (.var 1) (.cst (.int 7)))))) (.cons (.ret (.lst false (.cons (.var 2) (.cons (.bin .mod (.var 3) (.cst (.int 2147483629))) (.cons (.cmp .ge (.var 2) (.bin .pow (.cst (.int 10)) (.cst (.int 18)))) .nil))))) .nil))))
def d20 : Def := ⟨2, 4, .cell, b_w_begun_c⟩
abbrev e20 : Ent := ⟨"_law_begun", topS 36, ["_law_script", "_law_k", "_law_cell", "_law_start"], ["_law_script", "_law_k"], d20⟩
/-- _law_places (frz) -/
def L_w_places_0 : Ss := (.cons (.asg (.nm 4) (.bin .add (.bin .add (.var 4) (.cst (.int 1))) (.call F_w_take (.cons (.var 0) (.cons (.ix (.lst true (.cons (.cst (.int 1)) (.cons (.cst (.int 2)) (.cons (.cst (.int 6)) (.cons (.cst (.int 23)) .nil))))) (.call F_w_take (.cons (.var 0) (.cons (.cst (.int 4)) .nil)))) .nil))))) (.cons (.xpr (.mth .append (.var 3) (.cons (.tup (.cons (.var 4) (.cons (.bin .add (.cst (.int 1)) (.call F_w_take (.cons (.var 0) (.cons (.ix (.lst true (.cons (.cst (.int 1)) (.cons (.cst (.int 3)) (.cons (.cst (.int 9)) (.cons (.bin .pow (.cst (.int 10)) (.cst (.int 9))) .nil))))) (.var 2)) .nil)))) .nil))) .nil))) .nil))
def b_w_places : Ss := (.cons (.asg (.nm 2) (.call F_w_take (.cons (.var 0) (.cons (.cst (.int 4)) .nil)))) (.cons (.asg (.nm 3) (.lst false .nil)) (.cons (.asg (.nm 4) (.neg (.cst (.int 1)))) (.cons (.for (.nm 5) (.rng1 (.var 1)) L_w_places_0) (.cons (.ret (.var 3)) .nil)))))
def d21 : Def := ⟨2, 6, .frz, b_w_places⟩
abbrev e21 : Ent := ⟨"_law_places", topS 38, ["_law_state", "_law_count", "_law_kind", "_law_places_here", "_law_number", "_law_k"], ["_law_state", "_law_count"], d21⟩
def tbl : List Ent := [e0, e1, e2, e3, e4, e5, e6, e7, e8, e9, e10, e11, e12, e13, e14, e15, e16, e17, e18, e19, e20, e21]
def blts : List Str := ["all", "bool", "enumerate", "int", "isinstance", "len", "list", "range", "sorted", "str", "sum", "tuple", "zip"]
def glo : List (Str × T) := [("LAST_PLACE", (.int 999)), ("MOST_PLACES", (.int 40)), ("MOST_PRICES", (.int 1000000000000)), ("MOST_TIES", (.int 120))]
def clss : List ClsI := [⟨"NoJoin", [], false⟩, ⟨"NoWeb", ["part", "number"], true⟩]
def subs : List (Str × Str × Bool) := [("NoJoin", "NoWeb", false), ("NoWeb", "NoWeb", true), ("NoJoin", "NoPlace", false), ("NoJoin", "NoRows", false), ("NoJoin", "Overpaid", false), ("NoJoin", "NoStep", false), ("NoJoin", "NoTree", false), ("NoJoin", "NotTwo", false), ("NoJoin", "NotForest", false), ("NoJoin", "TooWide", false), ("NoJoin", "NoText", false), ("NoJoin", "NoSet", false), ("NoJoin", "NoCalls", false), ("NoJoin", "TooMany", false), ("NoJoin", "NoDeed", false), ("NoJoin", "Bare", false), ("NoJoin", "NoSay", false), ("NoJoin", "NoName", false), ("NoJoin", "TouchError", true), ("NoWeb", "TouchError", true), ("NoJoin", "NoJoin", true), ("NoWeb", "NoJoin", false)]
def xfs : List (Str × Str × Bool) := [("_law_others", "NoJoin", false)]
def wks : List Nat := [0, 2, 3, 13, 14]
abbrev defs : Nat → Option Def := defsOf tbl
theorem ok0 : EntOk (sigB (sigOf tbl blts glo clss subs xfs) wks true) e0 := ⟨⟨rfl, rfl, rfl, by decide +kernel, rfl, by decide +kernel, by decide +kernel⟩, rfl, rfl, by decide +kernel⟩
theorem ok1 : EntOk (sigB (sigOf tbl blts glo clss subs xfs) wks false) e1 := ⟨⟨rfl, rfl, rfl, by decide +kernel, rfl, by decide +kernel, by decide +kernel⟩, rfl, rfl, by decide +kernel⟩
theorem ok2 : EntOk (sigB (sigOf tbl blts glo clss subs xfs) wks true) e2 := ⟨⟨rfl, rfl, rfl, by decide +kernel, rfl, by decide +kernel, by decide +kernel⟩, rfl, rfl, by decide +kernel⟩
theorem ok3 : EntOk (sigB (sigOf tbl blts glo clss subs xfs) wks true) e3 := ⟨⟨rfl, rfl, rfl, by decide +kernel, rfl, by decide +kernel, by decide +kernel⟩, rfl, rfl, by decide +kernel⟩
theorem ok4 : EntOk (sigB (sigOf tbl blts glo clss subs xfs) wks false) e4 := ⟨⟨rfl, rfl, rfl, by decide +kernel, rfl, by decide +kernel, by decide +kernel⟩, rfl, rfl, by decide +kernel⟩
theorem ok5 : EntOk (sigB (sigOf tbl blts glo clss subs xfs) wks false) e5 := ⟨⟨rfl, rfl, rfl, by decide +kernel, rfl, by decide +kernel, by decide +kernel⟩, rfl, rfl, by decide +kernel⟩
theorem ok6 : EntOk (sigB (sigOf tbl blts glo clss subs xfs) wks false) e6 := ⟨⟨rfl, rfl, rfl, by decide +kernel, rfl, by decide +kernel, by decide +kernel⟩, rfl, rfl, by decide +kernel⟩
theorem ok7 : EntOk (sigB (sigOf tbl blts glo clss subs xfs) wks false) e7 := ⟨⟨rfl, rfl, rfl, by decide +kernel, rfl, by decide +kernel, by decide +kernel⟩, rfl, rfl, by decide +kernel⟩
theorem ok8 : EntOk (sigB (sigOf tbl blts glo clss subs xfs) wks false) e8 := ⟨⟨rfl, rfl, rfl, by decide +kernel, rfl, by decide +kernel, by decide +kernel⟩, rfl, rfl, by decide +kernel⟩
theorem ok9 : EntOk (sigB (sigOf tbl blts glo clss subs xfs) wks false) e9 := ⟨⟨rfl, rfl, rfl, by decide +kernel, rfl, by decide +kernel, by decide +kernel⟩, rfl, rfl, by decide +kernel⟩
theorem ok10 : EntOk (sigB (sigOf tbl blts glo clss subs xfs) wks false) e10 := ⟨⟨rfl, rfl, rfl, by decide +kernel, rfl, by decide +kernel, by decide +kernel⟩, rfl, rfl, by decide +kernel⟩
theorem ok11 : EntOk (sigB (sigOf tbl blts glo clss subs xfs) wks false) e11 := ⟨⟨rfl, rfl, rfl, by decide +kernel, rfl, by decide +kernel, by decide +kernel⟩, rfl, rfl, by decide +kernel⟩
theorem ok12 : EntOk (sigB (sigOf tbl blts glo clss subs xfs) wks false) e12 := ⟨⟨rfl, rfl, rfl, by decide +kernel, rfl, by decide +kernel, by decide +kernel⟩, rfl, rfl, by decide +kernel⟩
theorem ok13 : EntOk (sigB (sigOf tbl blts glo clss subs xfs) wks true) e13 := ⟨⟨rfl, rfl, rfl, by decide +kernel, rfl, by decide +kernel, by decide +kernel⟩, rfl, rfl, by decide +kernel⟩
theorem ok14 : EntOk (sigB (sigOf tbl blts glo clss subs xfs) wks true) e14 := ⟨⟨rfl, rfl, rfl, by decide +kernel, rfl, by decide +kernel, by decide +kernel⟩, rfl, rfl, by decide +kernel⟩
theorem ok15 : EntOk (sigB (sigOf tbl blts glo clss subs xfs) wks false) e15 := ⟨⟨rfl, rfl, rfl, by decide +kernel, rfl, by decide +kernel, by decide +kernel⟩, rfl, rfl, by decide +kernel⟩
theorem ok16 : EntOk (sigB (sigOf tbl blts glo clss subs xfs) wks false) e16 := ⟨⟨rfl, rfl, rfl, by decide +kernel, rfl, by decide +kernel, by decide +kernel⟩, rfl, rfl, by decide +kernel⟩
theorem ok17 : EntOk (sigB (sigOf tbl blts glo clss subs xfs) wks false) e17 := ⟨⟨rfl, rfl, rfl, by decide +kernel, rfl, by decide +kernel, by decide +kernel⟩, rfl, rfl, by decide +kernel⟩
theorem ok18 : EntOk (sigB (sigOf tbl blts glo clss subs xfs) wks false) e18 := ⟨⟨rfl, rfl, rfl, by decide +kernel, rfl, by decide +kernel, by decide +kernel⟩, rfl, rfl, by decide +kernel⟩
theorem ok19 : EntOk (sigB (sigOf tbl blts glo clss subs xfs) wks false) e19 := ⟨⟨rfl, rfl, rfl, by decide +kernel, rfl, by decide +kernel, by decide +kernel⟩, rfl, rfl, by decide +kernel⟩
theorem ok20 : EntOk (sigB (sigOf tbl blts glo clss subs xfs) wks false) e20 := ⟨⟨rfl, rfl, rfl, by decide +kernel, rfl, by decide +kernel, by decide +kernel⟩, rfl, rfl, by decide +kernel⟩
theorem ok21 : EntOk (sigB (sigOf tbl blts glo clss subs xfs) wks false) e21 := ⟨⟨rfl, rfl, rfl, by decide +kernel, rfl, by decide +kernel, by decide +kernel⟩, rfl, rfl, by decide +kernel⟩
theorem u_law (k : Nat) (a0 : D) (μ : Mem) : callI defs (k + 1) F_law [a0] μ = fin .frz μ (evSs (callI defs k) b_law [some a0, none, none, none, none, none, none, none, none, none, none] μ) := callI_succ (d := d0) rfl rfl
theorem u_w_same (k : Nat) (a0 a1 : D) (μ : Mem) : callI defs (k + 1) F_w_same [a0, a1] μ = fin .frz μ (evSs (callI defs k) b_w_same [some a0, some a1, none, none] μ) := callI_succ (d := d1) rfl rfl
theorem u_w_met (k : Nat) (a0 a1 : D) (μ : Mem) : callI defs (k + 1) F_w_met [a0, a1] μ = fin .frz μ (evSs (callI defs k) b_w_met [some a0, some a1, none, none] μ) := callI_succ (d := d2) rfl rfl
theorem u_beside (k : Nat) (a0 a1 : D) (μ : Mem) : callI defs (k + 1) F_beside [a0, a1] μ = fin .frz μ (evSs (callI defs k) b_beside [some a0, some a1, none, none] μ) := callI_succ (d := d3) rfl rfl
theorem u_look_at_web (k : Nat) (a0 : D) (μ : Mem) : callI defs (k + 1) F_look_at_web [a0] μ = fin .frz μ (evSs (callI defs k) b_look_at_web [some a0, none, none, none, none, none, none] μ) := callI_succ (d := d4) rfl rfl
theorem u_bad_tie (k : Nat) (a0 a1 : D) (μ : Mem) : callI defs (k + 1) F_bad_tie [a0, a1] μ = fin .frz μ (evSs (callI defs k) b_bad_tie [some a0, some a1, none, none, none] μ) := callI_succ (d := d5) rfl rfl
theorem u_tie_stands (k : Nat) (a0 a1 a2 : D) (μ : Mem) : callI defs (k + 1) F_tie_stands [a0, a1, a2] μ = fin .frz μ (evSs (callI defs k) b_tie_stands [some a0, some a1, some a2] μ) := callI_succ (d := d6) rfl rfl
theorem u_is_pair (k : Nat) (a0 : D) (μ : Mem) : callI defs (k + 1) F_is_pair [a0] μ = fin .frz μ (evSs (callI defs k) b_is_pair [some a0] μ) := callI_succ (d := d7) rfl rfl
theorem u_is_whole (k : Nat) (a0 : D) (μ : Mem) : callI defs (k + 1) F_is_whole [a0] μ = fin .frz μ (evSs (callI defs k) b_is_whole [some a0] μ) := callI_succ (d := d8) rfl rfl
theorem u_bad_place (k : Nat) (a0 : D) (μ : Mem) : callI defs (k + 1) F_bad_place [a0] μ = fin .frz μ (evSs (callI defs k) b_bad_place [some a0, none, none, none, none] μ) := callI_succ (d := d9) rfl rfl
theorem u_place_stands (k : Nat) (a0 a1 a2 : D) (μ : Mem) : callI defs (k + 1) F_place_stands [a0, a1, a2] μ = fin .frz μ (evSs (callI defs k) b_place_stands [some a0, some a1, some a2] μ) := callI_succ (d := d10) rfl rfl
theorem u_numbers_in (k : Nat) (a0 : D) (μ : Mem) : callI defs (k + 1) F_numbers_in [a0] μ = fin .frz μ (evSs (callI defs k) b_numbers_in [some a0, none, none] μ) := callI_succ (d := d11) rfl rfl
theorem u_w_due (k : Nat) (a0 a1 : D) (μ : Mem) : callI defs (k + 1) F_w_due [a0, a1] μ = fin .frz μ (evSs (callI defs k) b_w_due [some a0, some a1, none, none, none, none, none, none, none] μ) := callI_succ (d := d12) rfl rfl
theorem u_w_met_k (k : Nat) (a0 a1 : D) (μ : Mem) : callI defs (k + 1) F_w_met_k [a0, a1] μ = fin .keep μ (evSs (callI defs k) b_w_met_k [some a0, some a1, none, none] μ) := callI_succ (d := d13) rfl rfl
theorem u_beside_k (k : Nat) (a0 a1 : D) (μ : Mem) : callI defs (k + 1) F_beside_k [a0, a1] μ = fin .keep μ (evSs (callI defs k) b_beside_k [some a0, some a1, none, none] μ) := callI_succ (d := d14) rfl rfl
theorem u_w_copy (k : Nat) (a0 : D) (μ : Mem) : callI defs (k + 1) F_w_copy [a0] μ = fin .frz μ (evSs (callI defs k) b_w_copy [some a0] μ) := callI_succ (d := d15) rfl rfl
theorem u_w_ties (k : Nat) (a0 a1 a2 : D) (μ : Mem) : callI defs (k + 1) F_w_ties [a0, a1, a2] μ = fin .frz μ (evSs (callI defs k) b_w_ties [some a0, some a1, some a2, none, none, none, none, none, none, none] μ) := callI_succ (d := d16) rfl rfl
theorem u_w_take (k : Nat) (a0 a1 : D) (μ : Mem) : callI defs (k + 1) F_w_take [a0, a1] μ = fin .frz μ (evSs (callI defs k) b_w_take [some a0, some a1, none, none] μ) := callI_succ (d := d17) rfl rfl
theorem u_w_dearer (k : Nat) (a0 a1 : D) (μ : Mem) : callI defs (k + 1) F_w_dearer [a0, a1] μ = fin .frz μ (evSs (callI defs k) b_w_dearer [some a0, some a1, none, none, none, none, none] μ) := callI_succ (d := d18) rfl rfl
theorem u_w_dealt_k (k : Nat) (a0 a1 : D) (μ : Mem) : callI defs (k + 1) F_w_dealt_k [a0, a1] μ = fin .keep μ (evSs (callI defs k) b_w_dealt_k [some a0, some a1, none, none, none, none, none] μ) := callI_succ (d := d19) rfl rfl
theorem u_w_begun_c (k : Nat) (a0 a1 : D) (μ : Mem) : callI defs (k + 1) F_w_begun_c [a0, a1] μ = fin .cell μ (evSs (callI defs k) b_w_begun_c [some a0, some a1, none, none] μ) := callI_succ (d := d20) rfl rfl
theorem u_w_places (k : Nat) (a0 a1 : D) (μ : Mem) : callI defs (k + 1) F_w_places [a0, a1] μ = fin .frz μ (evSs (callI defs k) b_w_places [some a0, some a1, none, none, none, none] μ) := callI_succ (d := d21) rfl rfl
theorem ok_all : ∀ i e, tbl[i]? = some e → EntOk (sigB (sigOf tbl blts glo clss subs xfs) wks (wks.contains i)) e := by
  intro i e he
  match i, he with
  | 0, he => have he : some e0 = some e := he; cases he; exact ok0
  | 1, he => have he : some e1 = some e := he; cases he; exact ok1
  | 2, he => have he : some e2 = some e := he; cases he; exact ok2
  | 3, he => have he : some e3 = some e := he; cases he; exact ok3
  | 4, he => have he : some e4 = some e := he; cases he; exact ok4
  | 5, he => have he : some e5 = some e := he; cases he; exact ok5
  | 6, he => have he : some e6 = some e := he; cases he; exact ok6
  | 7, he => have he : some e7 = some e := he; cases he; exact ok7
  | 8, he => have he : some e8 = some e := he; cases he; exact ok8
  | 9, he => have he : some e9 = some e := he; cases he; exact ok9
  | 10, he => have he : some e10 = some e := he; cases he; exact ok10
  | 11, he => have he : some e11 = some e := he; cases he; exact ok11
  | 12, he => have he : some e12 = some e := he; cases he; exact ok12
  | 13, he => have he : some e13 = some e := he; cases he; exact ok13
  | 14, he => have he : some e14 = some e := he; cases he; exact ok14
  | 15, he => have he : some e15 = some e := he; cases he; exact ok15
  | 16, he => have he : some e16 = some e := he; cases he; exact ok16
  | 17, he => have he : some e17 = some e := he; cases he; exact ok17
  | 18, he => have he : some e18 = some e := he; cases he; exact ok18
  | 19, he => have he : some e19 = some e := he; cases he; exact ok19
  | 20, he => have he : some e20 = some e := he; cases he; exact ok20
  | 21, he => have he : some e21 = some e := he; cases he; exact ok21
  | n + 22, he => simp [tbl] at he -- ok
def fuel : Nat := 40
local macro_rules | `(tactic| walk_at "mi") => `(tactic| simp (disch := omega) only [evSs, evS, evE, evEs, evEo, evI, evC, bnd_ap, pur_ap, lift_ap, outO_ap, andThen_ap, toB_ap, ite_ap, ite_apO, List.getElem?_cons_zero, List.getElem?_cons_succ, List.set_cons_zero, List.set_cons_succ, asgT, asgTs, tupOf, tyOf, isiD, isAny, isB, cmpD, binD, bI_add, bI_sub, bI_mulr, bI_mull, bI_fdiv, bI_mod, bI_p6, bI_p9, bI_p10, bI_p12, bI_p18, bI_p20, bI_p30, toI, cmpI, bfnD, lstOf, watchL, rngM0_ok, rngM_ok, ixD, dctOf, dctTOf, idx, tupIs, toIs, wipeD, List.map_cons, List.map_nil, List.length_map, List.length_append, List.append_assoc, List.append_nil, List.length_cons, List.length_nil, fin, leave_t0, mkTup, toTs, scalD, memD, MI.isNon, MI.keyOf, Option.map_some, Bool.false_eq_true, if_true, if_false, reduceIte, Bool.or_false, Bool.or_true, Bool.not_true, Bool.not_false, Bool.and_true, Bool.true_and, Bool.and_false, Bool.false_and,
  Nat.reduceAdd, Int.cast_ofNat_Int, Int.reduceLE, Int.reduceLT, Int.reduceNeg, Int.reduceToNat, Int.reduceBEq, Option.bind_some, Int.le_refl, beq_self_eq_true, decide_true, decide_false, setD, List.getElem?_set_self, List.set_set, mthD, tyChk, mthT, List.nil_append, List.cons_append, Nat.reduceLeDiff, Int.reduceMul, Int.reducePow, Nat.reducePow, and_self, and_true, true_and, false_and, and_false, getA, getA0, setA, setA0, mkL, sizeLine_eq, Nat.reduceLT, decide_eq_true_eq, Bool.and_eq_true, Bool.or_eq_true, *])
local macro_rules | `(tactic| walk_at "mj") => `(tactic| simp (disch := omega) only [evSs, evS, evE, evEs, evEo, evI, evC, bnd_ap, pur_ap, lift_ap, outO_ap, andThen_ap, toB_ap, ite_ap, ite_apO, List.getElem?_cons_zero, List.getElem?_cons_succ, List.set_cons_zero, List.set_cons_succ, asgT, asgTs, tupOf, tyOf, isiD, isAny, isB, cmpD, binD, bI_add, bI_sub, bI_mulr, bI_mull, bI_fdiv, bI_mod, bI_p6, bI_p9, bI_p10, bI_p12, bI_p18, bI_p20, bI_p30, toI, cmpI, lstOf, watchL, rngM0_ok, rngM_ok, ixD, dctOf, dctTOf, idx, tupIs, toIs, wipeD, List.map_cons, List.map_nil, List.length_map, List.length_append, List.append_assoc, List.append_nil, List.length_cons, List.length_nil, fin, leave_t0, mkTup, toTs, scalD, MI.isNon, MI.keyOf, Option.map_some, Bool.false_eq_true, if_true, if_false, reduceIte, Bool.or_false, Bool.or_true, Bool.not_true, Bool.not_false, Bool.and_true, Bool.true_and, Bool.and_false, Bool.false_and,
  Nat.reduceAdd, Int.cast_ofNat_Int, Int.reduceLE, Int.reduceLT, Int.reduceNeg, Int.reduceToNat, Int.reduceBEq, Option.bind_some, Int.le_refl, beq_self_eq_true, decide_true, decide_false, setD, List.getElem?_set_self, List.set_set, mthD, tyChk, mthT, List.nil_append, List.cons_append, Nat.reduceLeDiff, Int.reduceMul, Int.reducePow, Nat.reducePow, and_self, and_true, true_and, false_and, and_false, getA, getA0, setA, setA0, mkL, sizeLine_eq, Nat.reduceLT, decide_eq_true_eq, Bool.and_eq_true, Bool.or_eq_true, *])
local macro_rules | `(tactic| walk_at "mk") => `(tactic| simp (disch := omega) only [evSs, evS, evE, evEs, evEo, evI, evC, bnd_ap, pur_ap, lift_ap, outO_ap, andThen_ap, toB_ap, ite_ap, ite_apO, List.getElem?_cons_zero, List.getElem?_cons_succ, List.set_cons_zero, List.set_cons_succ, asgT, asgTs, tuO_tup, tuO_tp, tO_non, tO_bl, tO_int, tO_str, tO_lst, tO_tup, tO_dct, tO_tp, tO_ref, isiD, isAny, isB, cmpD, binD, bI_add, bI_sub, bI_mulr, bI_mull, bI_fdiv, bI_mod, bI_p6, bI_p9, bI_p10, bI_p12, bI_p18, bI_p20, bI_p30, toI, cmpI, lO_lst, lO_scr, lO_tup, lO_dct, lO_int, lO_str, lO_non, lO_bl, lO_tp, lO_ref, wL_ref, wL_t, rngM0_ok, rngM_ok, ixD, dO_lst, dO_dct, dO_ref, dO_tup, dTO_lst, dTO_dcT, dTO_ref, dTO_tup, idx, tupIs, toIs, wipeD, List.map_cons, List.map_nil, List.length_map, List.length_append, List.append_assoc, List.append_nil, List.length_cons, List.length_nil, fin, leave_t0, mkTup, toTs, scalD, MI.isNon, MI.keyOf, Option.map_some, Bool.false_eq_true, if_true, if_false, reduceIte, Bool.or_false, Bool.or_true, Bool.not_true, Bool.not_false, Bool.and_true, Bool.true_and, Bool.and_false, Bool.false_and,
  Nat.reduceAdd, Int.cast_ofNat_Int, Int.reduceLE, Int.reduceLT, Int.reduceNeg, Int.reduceToNat, Int.reduceBEq, Option.bind_some, Int.le_refl, beq_self_eq_true, decide_true, decide_false, setD, List.getElem?_set_self, List.set_set, mthD, tyChk, mthT, List.nil_append, List.cons_append, Nat.reduceLeDiff, Int.reduceMul, Int.reducePow, Nat.reducePow, and_self, and_true, true_and, false_and, and_false, getA, getA0, setA, setA0, mkL, sizeLine_eq, Nat.reduceLT, decide_eq_true_eq, Bool.and_eq_true, Bool.or_eq_true, *])
/-! ### the draws' state: a cell, behind A -/
structure St where
  a : Int
  b : Int
  f : Bool
def stC (s : St) : Cell := .lst [.t (.int s.a), .t (.int s.b), .t (.bl s.f)]
theorem back_st (A : Mem) (s s' : St) (ν κ : Mem) : OkBack (A ++ stC s :: ν) (A ++ stC s' :: (ν ++ κ)) := ⟨by simp, fun c hc => by
  by_cases h : c < A.length
  · exact .inl (by rw [List.getElem?_append_left h, List.getElem?_append_left h])
  · obtain ⟨d, rfl⟩ : ∃ d, c = A.length + d := ⟨c - A.length, by omega⟩
    rw [getA, getA]
    cases d with
    | zero => exact .inr ⟨stC s', rfl, rfl⟩
    | succ d =>
      refine .inl ?_
      simp only [List.getElem?_cons_succ]
      exact List.getElem?_append_left (by simp at hc; omega)⟩
theorem take_st (A : Mem) (s s' : St) (ν κ : Mem) : (A ++ stC s' :: (ν ++ κ)).take (A ++ stC s :: ν).length = A ++ stC s' :: ν := by
  rw [show A ++ stC s' :: (ν ++ κ) = (A ++ stC s' :: ν) ++ κ from by simp, show (A ++ stC s :: ν).length = (A ++ stC s' :: ν).length from by simp, List.take_left]
theorem leave_s (A : Mem) (s s' : St) (ν κ : Mem) (t : T) : leave .frz (A ++ stC s :: ν) (.t t) (A ++ stC s' :: (ν ++ κ)) = .ok (.t t) (A ++ stC s' :: ν) := by
  unfold leave
  rw [if_pos (back_st A s s' ν κ)]
  simp only [frzD, take_st]
theorem leave_s0 (A : Mem) (s s' : St) (ν : Mem) (t : T) : leave .frz (A ++ stC s :: ν) (.t t) (A ++ stC s' :: ν) = .ok (.t t) (A ++ stC s' :: ν) := by
  have := leave_s A s s' ν [] t
  rwa [List.append_nil] at this
theorem leave_sl (A : Mem) (s s' : St) (ν κ : Mem) (i : Nat) (ts : List T) (h : κ[i]? = some (.lst (ts.map D.t))) : leave .frz (A ++ stC s :: ν) (.ref (A.length + (ν.length + 1 + i))) (A ++ stC s' :: (ν ++ κ)) = .ok (.t (.lst ts)) (A ++ stC s' :: ν) := by
  have e : (A ++ stC s' :: (ν ++ κ))[A.length + (ν.length + 1 + i)]? = some (.lst (ts.map D.t)) := by
    rw [getA, show ν.length + 1 + i = (ν.length + i) + 1 from by omega, List.getElem?_cons_succ, getA, h]
  have e2 : frzD (A ++ stC s' :: (ν ++ κ)) (A ++ stC s :: ν).length 4 (.ref (A.length + (ν.length + 1 + i))) = some (.lst ts) := frzD_lst (k := 3) (by simp) e
  unfold leave
  rw [if_pos (back_st A s s' ν κ)]
  simp only [e2, take_st]
theorem leave_sl0 (A : Mem) (s s' : St) (ν κ : Mem) (ts : List T) : leave .frz (A ++ stC s :: ν) (.ref (A.length + (ν.length + 1))) (A ++ stC s' :: (ν ++ (.lst (ts.map D.t) :: κ))) = .ok (.t (.lst ts)) (A ++ stC s' :: ν) := leave_sl A s s' ν _ 0 ts rfl
/-! ### places and ties -/
abbrev PL := List (Int × Int)
def pT (p : Int × Int) : T := .tup [.int p.1, .int p.2]
def plT (ps : PL) : T := .lst (ps.map pT)
def webT (ps ts : PL) : T := .tup [plT ps, plT ts]
def iT (ns : List Int) : T := .lst (ns.map T.int)
def endN (l : Int) (ps : PL) : Int := ps.foldl (fun _ p => p.1) l
theorem endN_snoc (l : Int) (ps : PL) (p : Int × Int) : endN l (ps ++ [p]) = p.1 := by simp [endN]
/-- rising, no step over 23 -/
def RisB : Int → PL → Prop
  | _, [] => True
  | l, p :: r => l < p.1 ∧ p.1 ≤ l + 23 ∧ RisB p.1 r
/-- prices from 1 to 10^9 -/
def PrB (ps : PL) : Prop := ∀ p ∈ ps, 1 ≤ p.2 ∧ p.2 ≤ 1000000000
theorem PrB.nil : PrB [] := fun p h => by cases h
theorem RisB.snoc : ∀ {ps : PL} {l : Int} {p : Int × Int}, RisB l ps → endN l ps < p.1 → p.1 ≤ endN l ps + 23 → RisB l (ps ++ [p])
  | [], l, p, _, h1, h2 => ⟨h1, h2, trivial⟩
  | q :: r, l, p, h, h1, h2 => ⟨h.1, h.2.1, RisB.snoc h.2.2 h1 h2⟩
theorem PrB.snoc {ps : PL} {p : Int × Int} (h : PrB ps) (h1 : 1 ≤ p.2) (h2 : p.2 ≤ 1000000000) : PrB (ps ++ [p]) := fun q hq => by
  rcases List.mem_append.mp hq with hq | hq
  · exact h q hq
  · obtain rfl : q = p := by simpa using hq
    exact ⟨h1, h2⟩
theorem pick4 {i : Int} {a b c d : Int} (h0 : 0 ≤ i) (h1 : i < 4) : ∃ v, ([D.t (.int a), D.t (.int b), D.t (.int c), D.t (.int d)] : List D)[i.toNat]? = some (.t (.int v)) ∧ (v = a ∨ v = b ∨ v = c ∨ v = d) := by
  have : i = 0 ∨ i = 1 ∨ i = 2 ∨ i = 3 := by omega
  rcases this with rfl | rfl | rfl | rfl
  · exact ⟨a, rfl, .inl rfl⟩
  · exact ⟨b, rfl, .inr (.inl rfl)⟩
  · exact ⟨c, rfl, .inr (.inr (.inl rfl))⟩
  · exact ⟨d, rfl, .inr (.inr (.inr rfl))⟩
theorem leave_st (A : Mem) (s s' : St) (ν κ : Mem) (i : Nat) (x : T) (ts : List T) (h : κ[i]? = some (.lst (ts.map D.t))) : leave .frz (A ++ stC s :: ν) (.tp [.t x, .ref (A.length + (ν.length + 1 + i))]) (A ++ stC s' :: (ν ++ κ)) = .ok (.t (.tup [x, .lst ts])) (A ++ stC s' :: ν) := by
  have e : (A ++ stC s' :: (ν ++ κ))[A.length + (ν.length + 1 + i)]? = some (.lst (ts.map D.t)) := by
    rw [getA, show ν.length + 1 + i = (ν.length + i) + 1 from by omega, List.getElem?_cons_succ, getA, h]
  have e2 : frzD (A ++ stC s' :: (ν ++ κ)) (A ++ stC s :: ν).length 4 (.tp [.t x, .ref (A.length + (ν.length + 1 + i))]) = some (.tup [x, .lst ts]) := by
    have := frzD_lst (k := 2) (μ := A ++ stC s' :: (ν ++ κ)) (n := (A ++ stC s :: ν).length) (c := A.length + (ν.length + 1 + i)) (by simp) e
    simp only [frzD, List.mapM_cons, List.mapM_nil] at this ⊢
    rw [this]
    rfl
  unfold leave
  rw [if_pos (back_st A s s' ν κ)]
  simp only [e2, take_st]
theorem c_w_take {k : Nat} (hk : 1 ≤ k) (A : Mem) (s : St) (m : Int) (ν : Mem) (hm : 0 < m) (hm2 : m < 1073741824) :
    ∃ d s', 0 ≤ d ∧ d < m ∧ callI defs k F_w_take [.ref A.length, .t (.int m)] (A ++ stC s :: ν) = .ok (.t (.int d)) (A ++ stC s' :: ν) := by
  obtain ⟨k, rfl, hk⟩ := callI_at (defs := defs) (f := 0) hk
  rw [u_w_take]
  obtain ⟨a, b, f⟩ := s
  cases f with
  | true =>
    refine ⟨a % m, ⟨a / m, b, decide (0 < a / m)⟩, Int.emod_nonneg _ (by omega), Int.emod_lt_of_pos _ hm, ?_⟩
    rw [b_w_take, stC]
    walk_at "mi"
    exact leave_s0 A ⟨a, b, true⟩ ⟨a / m, b, decide (0 < a / m)⟩ ν _
  | false =>
    have main : ∃ x y, fin .frz (A ++ stC ⟨a, b, false⟩ :: ν) (evSs (callI defs k) b_w_take [some (.ref A.length), some (.t (.int m)), none, none] (A ++ stC ⟨a, b, false⟩ :: ν)) = .ok (.t (.int (x % m))) (A ++ stC ⟨a, y, false⟩ :: ν) := by
      rw [b_w_take, stC]
      by_cases hb : 1000000 < m
      · refine ⟨((b * 48271 + 39373) % 2147483647) * ((b * 48271 + 39373) % 2147483647) % 2147483629 / 16 * 2147483629 + ((b * 48271 + 39373) % 2147483647 * 48271 + 39373) % 2147483647, ((b * 48271 + 39373) % 2147483647 * 48271 + 39373) % 2147483647, ?_⟩
        walk_at "mi"
        exact leave_s0 A ⟨a, b, false⟩ ⟨a, _, false⟩ ν _
      · refine ⟨((b * 48271 + 39373) % 2147483647) * ((b * 48271 + 39373) % 2147483647) % 2147483629 / 16, (b * 48271 + 39373) % 2147483647, ?_⟩
        walk_at "mi"
        exact leave_s0 A ⟨a, b, false⟩ ⟨a, _, false⟩ ν _
    obtain ⟨x, y, e⟩ := main
    exact ⟨x % m, ⟨a, y, false⟩, Int.emod_nonneg _ (by omega), Int.emod_lt_of_pos _ hm, e⟩
theorem c_w_places {k : Nat} (hk : 2 ≤ k) (A : Mem) (s : St) (n : Int) (ν : Mem) (h0 : 0 ≤ n) (hn : n ≤ 1000) :
    ∃ ps s', RisB (-1) ps ∧ PrB ps ∧ (ps.length : Int) = n ∧ callI defs k F_w_places [.ref A.length, .t (.int n)] (A ++ stC s :: ν) = .ok (.t (plT ps)) (A ++ stC s' :: ν) := by
  obtain ⟨k, rfl, hk⟩ := callI_at (defs := defs) (f := 0) hk
  rw [u_w_places, b_w_places]
  obtain ⟨kind, s1, hk0, hk4, e1⟩ := c_w_take (k := k) (by omega) A s 4 ν (by decide) (by decide)
  obtain ⟨pr, epr, hpr⟩ := pick4 (a := 1) (b := 3) (c := 9) (d := 1000000000) hk0 hk4
  obtain ⟨env', μ', e2, ps, s2, x5, hl, hr, hpb, rfl, rfl⟩ := for_run (tg := .nm 5) (b := fun env => evSs (callI defs k) L_w_places_0 env) (w := []) (fun (i : Nat) => D.t (.int (0 + (i : Int)))) (List.range n.toNat)
    (fun pre env μ' => ∃ (ps : PL) (s : St) (x5 : Option D), pre.length = ps.length ∧ RisB (-1) ps ∧ PrB ps ∧ env = [some (.ref A.length), some (.t (.int n)), some (.t (.int kind)), some (.ref (A.length + (ν.length + 1))), some (.t (.int (endN (-1) ps))), x5] ∧ μ' = A ++ stC s :: (ν ++ [.lst ((ps.map pT).map D.t)]))
    (env := [some (.ref A.length), some (.t (.int n)), some (.t (.int kind)), some (.ref (A.length + (ν.length + 1))), some (.t (.int (-1))), none]) (μ := A ++ stC s1 :: (ν ++ [.lst []]))
    ⟨[], s1, none, rfl, trivial, PrB.nil, rfl, rfl⟩ (fun _ _ _ _ => wok_nil _) (fun pre i post env μ' hx hp => by
      obtain ⟨ps, s, x5, hl, hr, hpb, rfl, rfl⟩ := hp
      refine ⟨_, rfl, ?_⟩
      obtain ⟨j, s2, hj0, hj4, e2⟩ := c_w_take (k := k) (by omega) A s 4 (ν ++ [.lst ((ps.map pT).map D.t)]) (by decide) (by decide)
      obtain ⟨st, est, hst⟩ := pick4 (a := 1) (b := 2) (c := 6) (d := 23) hj0 hj4
      obtain ⟨d, s3, hd0, hd1, e3⟩ := c_w_take (k := k) (by omega) A s2 st (ν ++ [.lst ((ps.map pT).map D.t)]) (by omega) (by omega)
      obtain ⟨p, s4, hp0, hp1, e4⟩ := c_w_take (k := k) (by omega) A s3 pr (ν ++ [.lst ((ps.map pT).map D.t)]) (by omega) (by omega)
      have hlen : ps.length < 1001 := by
        have := congrArg List.length hx
        simp at this
        omega
      refine ⟨_, _, ?_, ps ++ [(endN (-1) ps + 1 + d, 1 + p)], s4, some (.t (.int (0 + (i : Int)))), by simp [hl], hr.snoc (by simp; omega) (by simp; omega), hpb.snoc (by simp; omega) (by simp; omega), rfl, rfl⟩
      rw [L_w_places_0]
      have hl3 : ps.length < 16777216 := by omega
      walk_at "mi"
      simp [endN_snoc, pT])
  refine ⟨ps, s2, hr, hpb, by rw [← hl]; simp; omega, ?_⟩
  rw [← rngD_map] at e2
  walk_at "mi"
  exact leave_sl0 A s s2 ν [] _
theorem c_w_begun_c {k : Nat} (hk : 1 ≤ k) (ns : List Int) (hn : ns.length ≤ 63) (j : Int) (hj : 0 ≤ j) (μ : Mem) :
    ∃ s, callI defs k F_w_begun_c [.t (.scr ns), .t (.int j)] μ = .ok (.ref μ.length) (μ ++ [stC s]) := by
  obtain ⟨k, rfl, hk⟩ := callI_at (defs := defs) (f := 0) hk
  rw [u_w_begun_c, b_w_begun_c]
  by_cases h : j < (ns.length : Int)
  · have h1 : j.toNat < ns.length := by omega
    have hx : (ns.map fun n => D.t (.int n))[j.toNat]? = some (.t (.int ns[j.toNat])) := by rw [List.getElem?_map, List.getElem?_eq_getElem h1]; rfl
    refine ⟨⟨ns[j.toNat], (ns[j.toNat] % 2147483629 + 104729 * j + 7919 * (j / 7)) % 2147483629, decide (1000000000000000000 ≤ ns[j.toNat])⟩, ?_⟩
    walk_at "mi"
    exact leave_c0 μ _ [.int _, .int _, .bl _] rfl
  · refine ⟨⟨0, (0 % 2147483629 + 104729 * j + 7919 * (j / 7)) % 2147483629, decide ((1000000000000000000 : Int) ≤ 0)⟩, ?_⟩
    walk_at "mi"
    exact leave_c0 μ _ [.int _, .int _, .bl _] rfl
theorem c_is_whole {k : Nat} (hk : 1 ≤ k) (i : Int) (μ : Mem) : callI defs k F_is_whole [.t (.int i)] μ = .ok (.t (.bl true)) μ := by
  obtain ⟨k, rfl, hk⟩ := callI_at (defs := defs) (f := 0) hk
  rw [u_is_whole, b_is_whole]
  walk_at "mi"
theorem c_is_pair {k : Nat} (hk : 2 ≤ k) (i j : Int) (μ : Mem) : callI defs k F_is_pair [.t (.tup [.int i, .int j])] μ = .ok (.t (.bl true)) μ := by
  obtain ⟨k, rfl, hk⟩ := callI_at (defs := defs) (f := 0) hk
  rw [u_is_pair, b_is_pair]
  have h1 := fun i μ => c_is_whole (k := k) (by omega) i μ
  walk_at "mi"
theorem c_place_stands {k : Nat} (hk : 3 ≤ k) (i j last paid : Int) (μ : Mem) (h1 : last < i) (h2 : i ≤ 999) (h3 : 1 ≤ j) (h4 : j ≤ 1000000000000 - paid) : callI defs k F_place_stands [.t (.tup [.int i, .int j]), .t (.int last), .t (.int paid)] μ = .ok (.t (.bl true)) μ := by
  obtain ⟨k, rfl, hk⟩ := callI_at (defs := defs) (f := 0) hk
  rw [u_place_stands, b_place_stands]
  have c1 := fun i j μ => c_is_pair (k := k) (by omega) i j μ
  walk_at "mi"
/-- places that stand -/
def PlOk : Int → Int → PL → Prop
  | _, _, [] => True
  | last, paid, p :: r => last < p.1 ∧ p.1 ≤ 999 ∧ 1 ≤ p.2 ∧ p.2 ≤ 1000000000000 - paid ∧ PlOk p.1 (paid + p.2) r
def sumN (ps : PL) : Int := (ps.map (·.2)).sum
theorem PlOk.mid : ∀ {pre : PL} {last paid : Int} {p : Int × Int} {post : PL}, PlOk last paid (pre ++ p :: post) → endN last pre < p.1 ∧ p.1 ≤ 999 ∧ 1 ≤ p.2 ∧ p.2 ≤ 1000000000000 - (paid + sumN pre)
  | [], last, paid, p, post, h => ⟨h.1, h.2.1, h.2.2.1, by have := h.2.2.2.1; simp [sumN]; omega⟩
  | q :: pre, last, paid, p, post, h => by
    have := PlOk.mid h.2.2.2.2
    simp only [endN, List.foldl_cons, sumN, List.map_cons, List.sum_cons] at this ⊢
    refine ⟨this.1, this.2.1, this.2.2.1, ?_⟩
    have := this.2.2.2
    omega
theorem sumN_snoc (ps : PL) (p : Int × Int) : sumN (ps ++ [p]) = sumN ps + p.2 := by simp [sumN]
theorem enum_pl (ps : PL) : enumD 0 ((ps.map pT).map D.t) = (ps.zipIdx).map fun p => D.t (.tup [.int (p.2 : Nat), pT p.1]) := by
  rw [enumD_t, List.zipIdx_map, List.map_map]
  rfl
theorem zip_cut {ps : PL} {pre post : List ((Int × Int) × Nat)} {x : (Int × Int) × Nat} (h : ps.zipIdx = pre ++ x :: post) : ps = pre.map (·.1) ++ x.1 :: post.map (·.1) := by
  have := congrArg (List.map (·.1)) h
  simpa using this
theorem c_bad_place {k : Nat} (hk : 4 ≤ k) (ps : PL) (μ : Mem) (h : PlOk (-1) 0 ps) : callI defs k F_bad_place [.t (plT ps)] μ = .ok (.t .non) μ := by
  obtain ⟨k, rfl, hk⟩ := callI_at (defs := defs) (f := 0) hk
  rw [u_bad_place, b_bad_place]
  obtain ⟨env', μ', e2, x3, x4, rfl, rfl⟩ := for_run (tg := .tp [.nm 3, .nm 4]) (b := fun env => evSs (callI defs k) L_bad_place_0 env) (w := []) (fun (p : (Int × Int) × Nat) => D.t (.tup [.int (p.2 : Nat), pT p.1])) ps.zipIdx
    (fun pre env μ' => ∃ (x3 x4 : Option D), env = [some (.t (plT ps)), some (.t (.int (endN (-1) (pre.map (·.1))))), some (.t (.int (sumN (pre.map (·.1))))), x3, x4] ∧ μ = μ')
    (env := [some (.t (plT ps)), some (.t (.int (-1))), some (.t (.int 0)), none, none]) (μ := μ)
    ⟨none, none, rfl, rfl⟩ (fun _ _ _ _ => wok_nil _) (fun pre x post env μ' hx hp => by
      obtain ⟨x3, x4, rfl, rfl⟩ := hp
      refine ⟨_, rfl, ?_⟩
      obtain ⟨⟨i, j⟩, n⟩ := x
      have hm := zip_cut hx
      have hm := (hm ▸ h).mid
      simp only [Int.zero_add] at hm
      have c1 := c_place_stands (k := k) (by omega) i j _ _ μ hm.1 hm.2.1 hm.2.2.1 hm.2.2.2
      refine ⟨_, _, ?_, some (.t (.int (n : Nat))), some (.t (pT (i, j))), rfl, rfl⟩
      rw [L_bad_place_0]
      simp only [pT, List.map_append, List.map_cons, List.map_nil, endN_snoc, sumN_snoc]
      walk_at "mi")
  rw [← enum_pl] at e2
  simp only [plT] at e2 ⊢
  walk_at "mi"
/-- the book of prices -/
def bkK (ps : PL) : List (Key × D) := ps.map fun p => (.inl p.1, .t (.int p.2))
theorem getK_bk {ps : PL} {i : Int} (h : i ∈ ps.map (·.1)) : (getK (bkK ps) (.inl i)).isSome = true := by
  obtain ⟨p, hp, rfl⟩ := List.mem_map.mp h
  rw [getK, Option.isSome_map, List.find?_isSome]
  exact ⟨_, List.mem_map_of_mem hp, by simp⟩
theorem getK_bk_no {ps : PL} {i : Int} (h : i ∉ ps.map (·.1)) : getK (bkK ps) (.inl i) = none := by
  rw [getK, Option.map_eq_none_iff, List.find?_eq_none]
  intro x hx
  obtain ⟨p, hp, rfl⟩ := List.mem_map.mp hx
  simp only [decide_eq_true_eq, Sum.inl.injEq]
  intro e
  exact h (e ▸ List.mem_map_of_mem hp)
theorem putK_bk {ps : PL} {p : Int × Int} (h : p.1 ∉ ps.map (·.1)) : MI.putK (bkK ps) (.inl p.1) (.t (.int p.2)) = bkK (ps ++ [p]) := by
  have hn : (bkK ps).any (fun kd => decide (kd.1 = (Sum.inl p.1 : Key))) = false := by
    rw [List.any_eq_false]
    intro x hx
    obtain ⟨q, hq, rfl⟩ := List.mem_map.mp hx
    simp only [decide_eq_true_eq, Sum.inl.injEq]
    intro e
    exact h (e ▸ List.mem_map_of_mem hq)
  rw [MI.putK, if_neg (by rw [hn]; decide)]
  simp [bkK]
def lt2 (a b : Int × Int) : Prop := a.1 < b.1 ∨ (a.1 = b.1 ∧ a.2 < b.2)
theorem lexI_lt2 {a b : Int × Int} (h : lt2 a b) : lexI [a.1, a.2] [b.1, b.2] = true := by
  unfold lexI
  simp only [HT.lexLt]
  rcases h with h | ⟨h, h'⟩
  · rw [if_neg (by omega)]; simpa using h
  · rw [if_pos h, if_neg (by omega)]; simpa using h'
theorem c_tie_stands {k : Nat} (hk : 3 ≤ k) (t b : Int × Int) {c : Nat} {ps : PL} {μ : Mem} (hc : μ[c]? = some (.dct (bkK ps))) (h1 : t.1 < t.2) (h2 : t.1 ∈ ps.map (·.1)) (h3 : t.2 ∈ ps.map (·.1)) (h4 : lt2 b t) :
    callI defs k F_tie_stands [.t (pT t), .t (pT b), .ref c] μ = .ok (.t (.bl true)) μ := by
  obtain ⟨k, rfl, hk⟩ := callI_at (defs := defs) (f := 0) hk
  rw [u_tie_stands, b_tie_stands]
  have h5 := lexI_lt2 h4
  have h2 := getK_bk h2
  have h3 := getK_bk h3
  obtain ⟨t1, t2⟩ := t
  obtain ⟨b1, b2⟩ := b
  simp only [pT] at *
  have c1 := fun i j μ => c_is_pair (k := k) (by omega) i j μ
  clear h4
  walk_at "mi"
  done
/-- ties that stand -/
def TiOk (ks : List Int) : Int × Int → PL → Prop
  | _, [] => True
  | b, t :: r => t.1 < t.2 ∧ t.1 ∈ ks ∧ t.2 ∈ ks ∧ lt2 b t ∧ TiOk ks t r
def lasT (b : Int × Int) (ts : PL) : Int × Int := ts.foldl (fun _ t => t) b
theorem lasT_snoc (b : Int × Int) (ts : PL) (t : Int × Int) : lasT b (ts ++ [t]) = t := by simp [lasT]
theorem TiOk.mid {ks : List Int} : ∀ {pre : PL} {b t : Int × Int} {post : PL}, TiOk ks b (pre ++ t :: post) → t.1 < t.2 ∧ t.1 ∈ ks ∧ t.2 ∈ ks ∧ lt2 (lasT b pre) t
  | [], b, t, post, h => ⟨h.1, h.2.1, h.2.2.1, h.2.2.2.1⟩
  | q :: pre, b, t, post, h => TiOk.mid (pre := pre) h.2.2.2.2
theorem c_bad_tie {k : Nat} (hk : 4 ≤ k) (ts : PL) {c : Nat} {ps : PL} {μ : Mem} (hc : μ[c]? = some (.dct (bkK ps))) (h : TiOk (ps.map (·.1)) (-1, -1) ts) : callI defs k F_bad_tie [.t (plT ts), .ref c] μ = .ok (.t .non) μ := by
  obtain ⟨k, rfl, hk⟩ := callI_at (defs := defs) (f := 0) hk
  rw [u_bad_tie, b_bad_tie]
  obtain ⟨env', μ', e2, x3, x4, rfl, rfl⟩ := for_run (tg := .tp [.nm 3, .nm 4]) (b := fun env => evSs (callI defs k) L_bad_tie_0 env) (w := []) (fun (p : (Int × Int) × Nat) => D.t (.tup [.int (p.2 : Nat), pT p.1])) ts.zipIdx
    (fun pre env μ' => ∃ (x3 x4 : Option D), env = [some (.t (plT ts)), some (.ref c), some (.t (pT (lasT (-1, -1) (pre.map (·.1))))), x3, x4] ∧ μ = μ')
    (env := [some (.t (plT ts)), some (.ref c), some (.t (.tup [.int (-1), .int (-1)])), none, none]) (μ := μ)
    ⟨none, none, rfl, rfl⟩ (fun _ _ _ _ => wok_nil _) (fun pre x post env μ' hx hp => by
      obtain ⟨x3, x4, rfl, rfl⟩ := hp
      refine ⟨_, rfl, ?_⟩
      obtain ⟨t, n⟩ := x
      have hm := zip_cut hx
      have hm := (hm ▸ h).mid
      have c1 := c_tie_stands (k := k) (by omega) t _ hc hm.1 hm.2.1 hm.2.2.1 hm.2.2.2
      refine ⟨_, _, ?_, some (.t (.int (n : Nat))), some (.t (pT t)), rfl, rfl⟩
      rw [L_bad_tie_0]
      simp only [List.map_append, List.map_cons, List.map_nil, lasT_snoc]
      clear h hc hm
      walk_at "mi")
  rw [← enum_pl] at e2
  simp only [plT] at e2 ⊢
  walk_at "mi"
structure WebOk (ps ts : PL) : Prop where
  pl : PlOk (-1) 0 ps
  ti : TiOk (ps.map (·.1)) (-1, -1) ts
  np : ps.length ≤ 40
  nt : ts.length ≤ 120
theorem PlOk.gt : ∀ {ps : PL} {last paid : Int}, PlOk last paid ps → ∀ p ∈ ps, last < p.1
  | q :: r, last, paid, h, p, hp => by
    rcases List.mem_cons.mp hp with rfl | hp
    · exact h.1
    · exact Int.lt_trans h.1 (PlOk.gt h.2.2.2.2 p hp)
theorem PlOk.notin : ∀ {pre : PL} {last paid : Int} {p : Int × Int} {post : PL}, PlOk last paid (pre ++ p :: post) → p.1 ∉ pre.map (·.1)
  | [], _, _, _, _, _ => by simp
  | q :: pre, last, paid, p, post, h => by
    rw [List.map_cons, List.mem_cons, not_or]
    exact ⟨by have := PlOk.gt h.2.2.2.2 p (by simp); omega, PlOk.notin h.2.2.2.2⟩
theorem c_look_at_web {k : Nat} (hk : 5 ≤ k) {ps ts : PL} (h : WebOk ps ts) (μ : Mem) : callI defs k F_look_at_web [.t (webT ps ts)] μ = .ok (.t .non) μ := by
  obtain ⟨k, rfl, hk⟩ := callI_at (defs := defs) (f := 0) hk
  rw [u_look_at_web, b_look_at_web]
  have c1 := c_bad_place (k := k) (by omega) ps μ h.pl
  obtain ⟨env', μ', e2, x5, x6, rfl, rfl⟩ := for_run (tg := .tp [.nm 5, .nm 6]) (b := fun env => evSs (callI defs k) L_look_at_web_0 env) (w := []) (fun (p : Int × Int) => D.t (pT p)) ps
    (fun pre env μ' => ∃ (x5 x6 : Option D), env = [some (.t (webT ps ts)), some (.t (plT ps)), some (.t (plT ts)), some (.t .non), some (.ref μ.length), x5, x6] ∧ μ' = μ ++ [.dct (bkK pre)])
    (env := [some (.t (webT ps ts)), some (.t (plT ps)), some (.t (plT ts)), some (.t .non), some (.ref μ.length), none, none]) (μ := μ ++ [.dct []])
    ⟨none, none, rfl, rfl⟩ (fun _ _ _ _ => wok_nil _) (fun pre x post env μ' hx hp => by
      obtain ⟨x5, x6, rfl, rfl⟩ := hp
      obtain ⟨i, j⟩ := x
      refine ⟨_, rfl, ?_⟩
      have e1 := putK_bk (hx ▸ h.pl).notin
      have hl : (bkK pre).length < 16777216 := by
        have := congrArg List.length hx
        have := h.np
        simp [bkK] at *
        omega
      refine ⟨_, _, ?_, some (.t (.int i)), some (.t (.int j)), rfl, rfl⟩
      rw [L_look_at_web_0]
      clear h hx c1
      walk_at "mi")
  have c2 := c_bad_tie (k := k) (by omega) ts (c := μ.length) (μ := μ ++ [.dct (bkK ps)]) (by simp) h.ti
  have e3 : ps.map (fun p => D.t (pT p)) = (ps.map pT).map D.t := by simp
  rw [e3] at e2
  have l1 : ¬ ((40 : Int) < (ps.length : Int)) := by have := h.np; omega
  have l2 : ¬ ((120 : Int) < (ts.length : Int)) := by have := h.nt; omega
  simp only [webT, plT] at *
  clear h e3
  walk_at "mi"
  exact leave_t μ _ _
/-- a loop that goes on while a test holds of each item, else returns d -/
theorem for_all {α : Type} {tg : Tg} {b : Envv → MO} (g : α → D) (p : α → Bool) (d : D) (P : Envv → Prop) {μ : Mem} : ∀ (xs : List α)
    (_ : ∀ x ∈ xs, ∀ env, P env → ∃ env1, asgT tg (g x) env = some env1 ∧ (p x = true → ∃ env', b env1 μ = some (.nx env', μ) ∧ P env') ∧ (p x = false → b env1 μ = some (.rt d, μ))) {env : Envv} (_ : P env),
    (xs.all p = true → ∃ env', forLoop tg b [] (xs.map g) env μ = some (.nx env', μ) ∧ P env') ∧ (xs.all p = false → forLoop tg b [] (xs.map g) env μ = some (.rt d, μ))
  | [], _, env, h0 => ⟨fun _ => ⟨env, by simp only [List.map_nil, forLoop, if_pos (wok_nil μ)], h0⟩, fun h => by simp at h⟩
  | x :: xs, hs, env, h0 => by
    obtain ⟨env1, e1, e2, e3⟩ := hs x (by simp) env h0
    simp only [List.map_cons, forLoop, if_pos (wok_nil μ), e1, List.all_cons]
    cases hp : p x with
    | true =>
      obtain ⟨env', e4, h1⟩ := e2 hp
      have ih := for_all g p d P xs (fun y hy => hs y (by simp [hy])) h1
      simp only [e4, Bool.true_and]
      exact ih
    | false =>
      simp only [e3 hp, Bool.false_and]
      exact ⟨fun h => (by cases h), fun _ => trivial⟩
theorem RisB.of_map : ∀ {ps qs : PL} {l : Int}, qs.map (·.1) = ps.map (·.1) → RisB l ps → RisB l qs
  | [], [], _, _, _ => trivial
  | p :: ps, q :: qs, l, h, r => by
    simp only [List.map_cons, List.cons.injEq] at h
    exact ⟨h.1 ▸ r.1, h.1 ▸ r.2.1, h.1 ▸ RisB.of_map h.2 r.2.2⟩
theorem PlOk.of : ∀ {ps : PL} {l paid : Int}, RisB l ps → PrB ps → l + 23 * (ps.length : Int) ≤ 999 → paid + 1000000000 * (ps.length : Int) ≤ 1000000000000 → PlOk l paid ps
  | [], _, _, _, _, _, _ => trivial
  | p :: r, l, paid, h, hb, h1, h2 => by
    have hp := hb p (by simp)
    have hr := h.1
    have hs := h.2.1
    simp only [List.length_cons, Int.natCast_add, Int.cast_ofNat_Int] at h1 h2
    exact ⟨hr, by omega, hp.1, by omega, PlOk.of h.2.2 (fun q hq => hb q (by simp [hq])) (by omega) (by omega)⟩
theorem ties_zip {ks : List Int} {p : Int × Int → Bool} : ∀ {ns : PL} {l : Int} {b : Int × Int}, RisB l ns → b.1 ≤ l → (∀ n ∈ ns, n.1 ∈ ks) → TiOk ks b (((ns.map (·.1)).zip ((ns.map (·.1)).drop 1)).filter p)
  | [], _, _, _, _, _ => trivial
  | [x], _, _, _, _, _ => trivial
  | x :: y :: r, l, b, h, hb, hk => by
    have ih := fun b hb => ties_zip (ks := ks) (p := p) (ns := y :: r) (l := x.1) (b := b) h.2.2 hb (fun n hn => hk n (List.mem_cons_of_mem _ hn))
    simp only [List.map_cons, List.drop_succ_cons, List.drop_zero, List.zip_cons_cons, List.filter_cons] at ih ⊢
    have h1 := h.1
    have h2 := h.2.2.1
    split
    · exact ⟨h2, hk x (by simp), hk y (by simp), .inl (by omega), ih (x.1, y.1) (Int.le_refl _)⟩
    · exact ih b (by omega)
theorem cut1 (ds : List D) : MI.cutD ds (some 1) none = ds.drop 1 := by
  unfold MI.cutD
  cases ds with
  | nil => simp
  | cons d r =>
    have e1 : sIx (d :: r).length 0 (some 1) = 1 := by
      simp only [sIx, HT.sIx, List.length_cons]
      rw [if_neg (by decide)]
      show min 1 (r.length + 1) = 1
      omega
    have e2 : sIx (d :: r).length (d :: r).length none = (d :: r).length := by
      simp only [sIx, HT.sIx]
    rw [e1, e2, List.drop_succ_cons, List.drop_zero, List.length_cons, Nat.add_sub_cancel, List.take_length]
theorem TiOk.snoc {ks : List Int} : ∀ {ts : PL} {b t : Int × Int}, TiOk ks b ts → t.1 < t.2 → t.1 ∈ ks → t.2 ∈ ks → lt2 (lasT b ts) t → TiOk ks b (ts ++ [t])
  | [], b, t, _, h1, h2, h3, h4 => ⟨h1, h2, h3, h4, trivial⟩
  | q :: r, b, t, h, h1, h2, h3, h4 => ⟨h.1, h.2.1, h.2.2.1, h.2.2.2.1, TiOk.snoc h.2.2.2.2 h1 h2 h3 h4⟩
theorem RisB.lt : ∀ {ps : PL} {l : Int}, RisB l ps → ∀ {i j : Nat} (hi : i < ps.length) (hj : j < ps.length), i < j → ps[i].1 < ps[j].1
  | p :: r, l, h, 0, j + 1, hi, hj, _ => by
    have g : ∀ {ps : PL} {l : Int}, RisB l ps → ∀ q ∈ ps, l < q.1 := by
      intro ps
      induction ps with
      | nil => intro l _ q hq; cases hq
      | cons x xs ih =>
        intro l h q hq
        rcases List.mem_cons.mp hq with e | hq
        · rw [e]; exact h.1
        · exact Int.lt_trans h.1 (ih h.2.2 q hq)
    exact g h.2.2 _ (List.getElem_mem _)
  | p :: r, l, h, i + 1, j + 1, hi, hj, hij => by
    simp only [List.length_cons] at hi hj
    simp only [List.getElem_cons_succ]
    exact RisB.lt h.2.2 (by omega) (by omega) (by omega)
theorem RisB.pos : ∀ {ps : PL} {l : Int}, RisB l ps → ∀ q ∈ ps, l < q.1
  | x :: xs, l, h, q, hq => by
    rcases List.mem_cons.mp hq with e | hq
    · rw [e]; exact h.1
    · exact Int.lt_trans h.1 (RisB.pos h.2.2 q hq)
/-- the item at i of places -/
theorem pl_at {ps : PL} {i : Nat} (h : i < ps.length) : ((ps.map pT).map D.t)[i]? = some (.t (.tup [.int ps[i].1, .int ps[i].2])) := by
  rw [List.getElem?_map, List.getElem?_map, List.getElem?_eq_getElem h]; rfl
theorem rng_at {n : Nat} {pre post : List Nat} {i : Nat} (h : List.range n = pre ++ i :: post) : i = pre.length ∧ i < n := by
  have h1 : (List.range n)[pre.length]? = some i := by rw [h]; simp
  have h2 := List.getElem?_eq_some_iff.mp h1
  obtain ⟨h3, h4⟩ := h2
  simp at h3 h4
  omega
/-- the first number of the last tie is below that of the place k, or it is k's and the second is below j's -/
def LaB (ps : PL) (k j : Nat) (b : Int × Int) : Prop := (∀ h : k < ps.length, b.1 < ps[k].1) ∨ (∃ h : k < ps.length, b.1 = ps[k].1 ∧ ∀ h : j < ps.length, b.2 < ps[j].1)
/-- as many ties as there may be among the first j places and all -/
def tri (n : Nat) : Nat → Nat
  | 0 => 0
  | j + 1 => tri n j + (n - 1 - j)
theorem tri_mono {n : Nat} : ∀ {i j : Nat}, i ≤ j → tri n i ≤ tri n j
  | i, 0, h => by rw [Nat.le_zero.mp h]; exact Nat.le_refl _
  | i, j + 1, h => by
    by_cases e : i = j + 1
    · rw [e]; exact Nat.le_refl _
    · exact Nat.le_trans (tri_mono (i := i) (j := j) (by omega)) (Nat.le_add_right _ _)
theorem tri_le (n : Nat) (h : n ≤ 15) : tri n n ≤ 105 := by
  have : ∀ n : Fin 16, tri n n ≤ 105 := by decide
  exact this ⟨n, by omega⟩
theorem any_eqF {ns : List Int} {i : Int} (h : i ∈ ns) : (ns.map T.int).any (fun y => eqF y (.int i)) = true := by
  rw [List.any_eq_true]
  exact ⟨.int i, List.mem_map_of_mem h, by simp [eqF]⟩
theorem all_flat (ns : List Int) : (ns.map T.int).all flatT = true := by
  rw [List.all_eq_true]
  intro x hx
  obtain ⟨i, _, rfl⟩ := List.mem_map.mp hx
  rfl
/-- i among ns, as the text asks it -/
def mI (ns : List Int) (i : Int) : Bool := (ns.map T.int).any (fun y => eqF y (.int i))
def leftP (ns : List Int) (t : Int × Int) : Bool := !mI ns t.1 && !mI ns t.2
theorem mem_mI (ns : List Int) (i : Int) (μ : Mem) : memD (.t (.int i)) (.t (iT ns)) μ = some (mI ns i) := by
  have h1 := toTs_of (ns.map T.int)
  have h2 := all_flat ns
  have h3 : flatT (.int i) = true := rfl
  simp only [memD, iT, dctOf, dctTOf, lstOf, h1, h2, h3, Bool.and_self, if_true, mI]
theorem nmem_ev {F : Orac} {a b : E} {env : Envv} {μ : Mem} {ns : List Int} {i : Int} (h1 : evE F a env μ = .ok (.t (.int i)) μ) (h2 : evE F b env μ = .ok (.t (iT ns)) μ) : evE F (.cmp .nmem a b) env μ = .ok (.t (.bl (!mI ns i))) μ := by
  simp only [evE, bnd_ap, h1, h2, cmpD, mem_mI]
theorem mem_ev {F : Orac} {a b : E} {env : Envv} {μ : Mem} {ns : List Int} {i : Int} (h1 : evE F a env μ = .ok (.t (.int i)) μ) (h2 : evE F b env μ = .ok (.t (iT ns)) μ) : evE F (.cmp .mem a b) env μ = .ok (.t (.bl (mI ns i))) μ := by
  simp only [evE, bnd_ap, h1, h2, cmpD, mem_mI]
theorem and_ev {F : Orac} {a b : E} {env : Envv} {μ : Mem} {p q : Bool} (h1 : evE F a env μ = .ok (.t (.bl p)) μ) (h2 : evE F b env μ = .ok (.t (.bl q)) μ) : evE F (.and a b) env μ = .ok (.t (.bl (p && q))) μ := by
  simp only [evE, bnd_ap, h1, toB_ap]
  cases p
  · rfl
  · simp only [if_true, h2, Bool.true_and]
theorem or_ev {F : Orac} {a b : E} {env : Envv} {μ : Mem} {p q : Bool} (h1 : evE F a env μ = .ok (.t (.bl p)) μ) (h2 : evE F b env μ = .ok (.t (.bl q)) μ) : evE F (.or a b) env μ = .ok (.t (.bl (p || q))) μ := by
  simp only [evE, bnd_ap, h1, toB_ap]
  cases p
  · simp only [Bool.false_eq_true, if_false, h2, Bool.false_or]
  · rfl
theorem ints_map (ns : List Int) : (ns.map T.int).map D.t = ns.map fun n => D.t (.int n) := by
  rw [List.map_map]
  rfl
theorem mI_iff {ns : List Int} {i : Int} : mI ns i = true ↔ i ∈ ns := by
  simp only [mI, List.any_eq_true, List.mem_map]
  constructor
  · rintro ⟨_, ⟨j, hj, rfl⟩, h⟩
    simp only [eqF, beq_iff_eq, decide_eq_true_eq] at h
    exact h ▸ hj
  · exact fun h => ⟨_, ⟨i, h, rfl⟩, by simp [eqF]⟩
/-- d stands for the list of whole numbers ns: frozen, or in a cell -/
structure LD (μ : Mem) (d : D) (ns : List Int) : Prop where
  lst : lstOf μ d = some (ns.map fun n => D.t (.int n))
  ty : tyOf μ d = some .lst
  mem : ∀ i, memD (.t (.int i)) d μ = some (mI ns i)
  wat : WOk μ (watchL d (ns.map fun n => D.t (.int n)))
theorem LD.frz (μ : Mem) (ns : List Int) : LD μ (.t (iT ns)) ns := ⟨by simp only [lstOf, iT, ints_map], rfl, fun i => mem_mI ns i μ, wok_nil _⟩
theorem LD.cel {μ : Mem} {c : Nat} {ns : List Int} (h : μ[c]? = some (.lst (ns.map fun n => D.t (.int n)))) : LD μ (.ref c) ns := ⟨by simp only [lstOf, h], by simp only [tyOf, h], fun i => by
  have h1 := toTs_of (ns.map T.int)
  rw [ints_map] at h1
  have h2 := all_flat ns
  have h3 : flatT (.int i) = true := rfl
  simp only [memD, dctOf, dctTOf, lstOf, h, h1, h2, h3, Bool.and_self, if_true, mI], fun p hp => by
  have e : p = (c, ns.map fun n => D.t (.int n)) := by simpa [watchL] using hp
  rw [e]
  exact h⟩
theorem LD.nmem {F : Orac} {a b : E} {env : Envv} {μ : Mem} {ns : List Int} {d : D} {i : Int} (h : LD μ d ns) (h1 : evE F a env μ = .ok (.t (.int i)) μ) (h2 : evE F b env μ = .ok d μ) : evE F (.cmp .nmem a b) env μ = .ok (.t (.bl (!mI ns i))) μ := by
  simp only [evE, bnd_ap, h1, h2, cmpD, h.mem]
theorem LD.imem {F : Orac} {a b : E} {env : Envv} {μ : Mem} {ns : List Int} {d : D} {i : Int} (h : LD μ d ns) (h1 : evE F a env μ = .ok (.t (.int i)) μ) (h2 : evE F b env μ = .ok d μ) : evE F (.cmp .mem a b) env μ = .ok (.t (.bl (mI ns i))) μ := by
  simp only [evE, bnd_ap, h1, h2, cmpD, h.mem]
theorem ife_true {F : Orac} {c : E} {a b : Ss} {env : Envv} {μ : Mem} (h : evE F c env μ = .ok (.t (.bl true)) μ) : evS F (.ife c a b) env μ = evSs F a env μ := by
  simp only [evS, lift, bnd_ap, h, toB_ap, if_true]
theorem ife_false {F : Orac} {c : E} {a b : Ss} {env : Envv} {μ : Mem} (h : evE F c env μ = .ok (.t (.bl false)) μ) : evS F (.ife c a b) env μ = evSs F b env μ := by
  simp only [evS, lift, bnd_ap, h, toB_ap, Bool.false_eq_true, if_false]
theorem not_ev {F : Orac} {a : E} {env : Envv} {μ : Mem} {p : Bool} (h : evE F a env μ = .ok (.t (.bl p)) μ) : evE F (.not a) env μ = .ok (.t (.bl (!p))) μ := by
  simp only [evE, bnd_ap, h, toB_ap]
  rfl
/-- a loop that stops at x: it is left by the outcome o -/
theorem for_stop {α : Type} {tg : Tg} {b : Envv → MO} {w : Watch} (g : α → D) (P : Envv → Mem → Prop) (o : Out) (μe : Mem) (ho : ∀ e, o ≠ .nx e) (ho2 : ∀ e, o ≠ .ct e) (ho3 : ∀ e, o ≠ .bk e) (hw : ∀ env μ, P env μ → WOk μ w) : ∀ (pre : List α) (x : α) (post : List α)
    (_ : ∀ y ∈ pre, ∀ env μ, P env μ → ∃ env1, asgT tg (g y) env = some env1 ∧ ∃ env' μ', b env1 μ = some (.nx env', μ') ∧ P env' μ') (_ : ∀ env μ, P env μ → ∃ env1, asgT tg (g x) env = some env1 ∧ b env1 μ = some (o, μe)) {env : Envv} {μ : Mem} (_ : P env μ),
    forLoop tg b w ((pre ++ x :: post).map g) env μ = some (o, μe)
  | [], x, post, _, hx, env, μ, h0 => by
    obtain ⟨env1, e1, e2⟩ := hx env μ h0
    simp only [List.nil_append, List.map_cons, forLoop, if_pos (hw _ _ h0), e1, e2]
    cases o with
    | nx e => exact absurd rfl (ho e)
    | ct e => exact absurd rfl (ho2 e)
    | bk e => exact absurd rfl (ho3 e)
    | rt d => rfl
    | ex y e => rfl
  | y :: pre, x, post, hs, hx, env, μ, h0 => by
    obtain ⟨env1, e1, env', μ', e2, h1⟩ := hs y (by simp) env μ h0
    have ih := for_stop g P o μe ho ho2 ho3 hw pre x post (fun z hz => hs z (by simp [hz])) hx h1
    simp only [List.cons_append, List.map_cons, forLoop, if_pos (hw _ _ h0), e1, e2]
    exact ih
/-- the first that is not so -/
theorem first_not {α : Type} (p : α → Bool) : ∀ (l : List α), l.all p = false → ∃ pre x post, l = pre ++ x :: post ∧ (∀ y ∈ pre, p y = true) ∧ p x = false
  | [], h => by simp at h
  | a :: l, h => by
    cases ha : p a with
    | false => exact ⟨[], a, l, rfl, fun y hy => (by cases hy), ha⟩
    | true =>
      rw [List.all_cons, ha, Bool.true_and] at h
      obtain ⟨pre, x, post, e, h1, h2⟩ := first_not p l h
      exact ⟨a :: pre, x, post, by rw [e]; rfl, fun y hy => by
        rcases List.mem_cons.mp hy with rfl | hy
        · exact ha
        · exact h1 y hy, h2⟩
theorem leaveX0 (μ : Mem) (x : Exn) : leaveX μ x μ = .ex x μ := by
  unfold leaveX
  rw [if_pos (back_refl μ), List.take_length]
theorem leaveX1 (μ ν : Mem) (x : Exn) : leaveX μ x (μ ++ ν) = .ex x μ := by
  unfold leaveX
  rw [if_pos (back_app μ ν), List.take_left]
theorem leave_k (μ ν : Mem) (d : D) : leave .keep μ d (μ ++ ν) = .ok d (μ ++ ν) := by
  unfold leave
  rw [if_pos (back_app μ ν)]
theorem or_t {F : Orac} {a b : E} {env : Envv} {μ : Mem} (h1 : evE F a env μ = .ok (.t (.bl true)) μ) : evE F (.or a b) env μ = .ok (.t (.bl true)) μ := by
  simp only [evE, bnd_ap, h1, toB_ap, if_true]
  rfl
theorem and_f {F : Orac} {a b : E} {env : Envv} {μ : Mem} (h1 : evE F a env μ = .ok (.t (.bl false)) μ) : evE F (.and a b) env μ = .ok (.t (.bl false)) μ := by
  simp only [evE, bnd_ap, h1, toB_ap, Bool.false_eq_true, if_false]
  rfl
theorem comp_st {α : Type} {tg : Tg} {env : Envv} {c : Envv → M Bool} {el : Envv → M D} {w : Watch} (g : α → D) (xs : List α) (P : List α → List D → Mem → Prop) {acc0 : List D} {μ0 : Mem} (h0 : P [] acc0 μ0) (hw : ∀ pre acc μ, P pre acc μ → WOk μ w)
    (hs : ∀ pre x post acc μ, xs = pre ++ x :: post → P pre acc μ → ∃ env', asgT tg (g x) env = some env' ∧ ∃ b μ1, c env' μ = .ok b μ1 ∧ (b = true → ∃ d μ2, el env' μ1 = .ok d μ2 ∧ P (pre ++ [x]) (acc ++ [d]) μ2) ∧ (b = false → P (pre ++ [x]) acc μ1)) :
    ∃ acc' μ', compLoop tg env c el w (xs.map g) acc0 μ0 = .ok acc' μ' ∧ P xs acc' μ' := by
  have main : ∀ (post pre : List α) (acc : List D) (μ : Mem), xs = pre ++ post → P pre acc μ → ∃ acc' μ', compLoop tg env c el w (post.map g) acc μ = .ok acc' μ' ∧ P xs acc' μ' := by
    intro post
    induction post with
    | nil =>
      intro pre acc μ e p
      rw [List.append_nil] at e
      subst e
      refine ⟨acc, μ, ?_, p⟩
      simp only [List.map_nil, compLoop, if_pos (hw _ _ _ p)]
    | cons x post ih =>
      intro pre acc μ e p
      obtain ⟨env', e1, b, μ1, e2, hb1, hb2⟩ := hs pre x post acc μ e p
      cases b with
      | true =>
        obtain ⟨d, μ2, e3, p2⟩ := hb1 rfl
        obtain ⟨acc', μ', e4, p3⟩ := ih (pre ++ [x]) (acc ++ [d]) μ2 (by rw [e]; simp) p2
        refine ⟨acc', μ', ?_, p3⟩
        simp only [List.map_cons, compLoop, if_pos (hw _ _ _ p), e1, bnd, e2, noEx, if_true, e3, e4]
      | false =>
        obtain ⟨acc', μ', e4, p3⟩ := ih (pre ++ [x]) acc μ1 (by rw [e]; simp) (hb2 rfl)
        refine ⟨acc', μ', ?_, p3⟩
        simp only [List.map_cons, compLoop, if_pos (hw _ _ _ p), e1, bnd, e2, noEx, Bool.false_eq_true, if_false, e4]
  exact main xs [] acc0 μ0 rfl h0
theorem ev_st {α : Type} {F : Orac} {own : List (Str × Nat)} {tg : Tg} {it : MI.It} {ifs : Es} {e : E} {env : Envv} {μ : Mem} {w : Watch} (g : α → D) (xs : List α) (P : List α → List T → Mem → Prop) (hi : evI F it env μ = .ok (xs.map g, w) μ) (hl : xs.length ≤ sizeLine) (h0 : P [] [] μ) (hw : ∀ pre acc μ, P pre acc μ → WOk μ w) (hz : ∀ acc μ, P xs acc μ → acc.length ≤ sizeLine)
    (hs : ∀ pre x post acc μ, xs = pre ++ x :: post → P pre acc μ → ∃ env', asgT tg (g x) (wipeD env (own.map (·.2))) = some env' ∧ ∃ b μ1, evC F ifs env' μ = .ok b μ1 ∧ (b = true → ∃ t μ2, evE F e env' μ1 = .ok (.t t) μ2 ∧ P (pre ++ [x]) (acc ++ [t]) μ2) ∧ (b = false → P (pre ++ [x]) acc μ1)) :
    ∃ acc μ', evE F (.comp true own tg it ifs e) env μ = .ok (.t (.lst acc)) μ' ∧ P xs acc μ' := by
  obtain ⟨acc', μ', e1, ts, rfl, p⟩ := comp_st (tg := tg) (env := wipeD env (own.map (·.2))) (c := fun env => evC F ifs env) (el := fun env => evE F e env) (w := w) g xs (fun pre acc μ => ∃ ts : List T, acc = ts.map D.t ∧ P pre ts μ) (acc0 := []) (μ0 := μ) ⟨[], rfl, h0⟩ (fun pre acc μ ⟨ts, _, p⟩ => hw pre ts μ p) (fun pre x post acc μ hx ⟨ts, ea, p⟩ => by
    obtain ⟨env', e1, b, μ1, e2, h1, h2⟩ := hs pre x post ts μ hx p
    refine ⟨env', e1, b, μ1, e2, fun hb => ?_, fun hb => ⟨ts, ea, h2 hb⟩⟩
    obtain ⟨t, μ2, e3, p2⟩ := h1 hb
    exact ⟨.t t, μ2, e3, ts ++ [t], by rw [ea]; simp, p2⟩)
  refine ⟨ts, μ', ?_, p⟩
  simp only [evE, bnd_ap, hi, List.length_map, if_pos hl]
  rw [e1]
  simp only []
  rw [mkL_t _ _ (hz _ _ p)]
theorem leave_ci (μ : Mem) (ts : List T) : leave .cell μ (.ref μ.length) (μ ++ [.lst (ts.map D.t)]) = .ok (.ref μ.length) (μ ++ [.lst (ts.map D.t)]) := leave_c0 μ _ ts rfl
theorem ev_compc {α : Type} {F : Orac} {own : List (Str × Nat)} {tg : Tg} {it : MI.It} {ifs : Es} {e : E} {env : Envv} {μ : Mem} {w : Watch} (g : α → D) (xs : List α) (p : α → Bool) (f : α → T) (hi : evI F it env μ = .ok (xs.map g, w) μ) (hl : xs.length ≤ sizeLine) (hw : WOk μ w)
    (h : ∀ x ∈ xs, ∃ env', asgT tg (g x) (wipeD env (own.map (·.2))) = some env' ∧ evC F ifs env' μ = .ok (p x) μ ∧ (p x = true → evE F e env' μ = .ok (.t (f x)) μ)) :
    evE F (.comp false own tg it ifs e) env μ = .ok (.ref μ.length) (μ ++ [.lst (((xs.filter p).map f).map D.t)]) := by
  have e1 := comp_run (tg := tg) (env := wipeD env (own.map (·.2))) (c := fun env => evC F ifs env) (el := fun env => evE F e env) (w := w) g xs p f hw h []
  simp only [evE, bnd_ap, hi, List.length_map, if_pos hl]
  rw [e1]
  simp only [List.nil_append]
  rw [mkL_c]
  exact Nat.le_trans (by rw [List.length_map, List.length_map]; exact List.length_filter_le _ _) hl
def ptD (p : Int × Int) : PyData := .tuple [.int p.1, .int p.2]
theorem toP_pT (p : Int × Int) : toP (pT p) = some (ptD p) := by simp [pT, ptD, toP, toPs]
theorem toPs_pT : ∀ ts : PL, toPs (ts.map pT) = some (ts.map ptD)
  | [] => by simp [toPs]
  | t :: ts => by simp [toPs, toP_pT, toPs_pT ts]
theorem lay_pT (p : Int × Int) : (ptD p).canLay0 = true := by simp [ptD, PyData.canLay0, PyData.canLayAll0]
theorem lay_pTs : ∀ ts : PL, PyData.canLayAll0 (ts.map ptD) = true
  | [] => by simp [PyData.canLayAll0]
  | t :: ts => by simp [PyData.canLayAll0, lay_pT, lay_pTs ts]
theorem dep_pT (p : Int × Int) : (ptD p).depth ≤ 63 := by simp [ptD, PyData.depth, PyData.depthAll]
theorem eqv_pT (p q : Int × Int) : PyData.eqv (ptD p) (ptD q) = decide (p = q) := by
  obtain ⟨a, b⟩ := p
  obtain ⟨c, d⟩ := q
  simp only [ptD, PyData.eqv, PyData.eqvAll, Bool.and_true, Prod.mk.injEq, Bool.decide_and]
  rfl
theorem any_pT (t : Int × Int) (ts : PL) : ((ts.map ptD).any fun z => PyData.eqv z (ptD t)) = decide (t ∈ ts) := by
  rw [Bool.eq_iff_iff, List.any_eq_true, decide_eq_true_eq]
  constructor
  · rintro ⟨z, hz, e⟩
    obtain ⟨p, hp, rfl⟩ := List.mem_map.mp hz
    rw [eqv_pT, decide_eq_true_eq] at e
    exact e ▸ hp
  · intro h
    exact ⟨_, List.mem_map_of_mem h, by rw [eqv_pT]; simp⟩
theorem memP_pl {μ : Mem} {c : Nat} {ts : PL} (t : Int × Int) (h : μ[c]? = some (.lst ((ts.map pT).map D.t))) : memP μ (.t (pT t)) (.ref c) = some (decide (t ∈ ts)) := by
  have h1 := toTs_of (ts.map pT)
  have h3 : deepD μ (.t (pT t)) = some (ptD t) := toP_pT t
  have h4 : deepD μ (.ref c) = some (.list (ts.map ptD)) := by simp only [deepD, h, h1, Option.bind_some, toPs_pT, Option.map_some]
  simp only [memP, h3, h4, lay_pT, lay_pTs, dep_pT, decide_true, Bool.and_self, if_true, any_pT]
theorem toPrs_pT : ∀ ts : PL, toPrs ((ts.map pT).map D.t) = some ts
  | [] => rfl
  | t :: ts => by
    rw [List.map_cons, List.map_cons, toPrs, toPrs_pT ts]
    rfl
/-- sorted of a list of pairs -/
theorem sorted_pl {μ : Mem} {d : D} {ts : PL} (h : lstOf μ d = some ((ts.map pT).map D.t)) (hl : ts.length ≤ 16777216) : bfnD true .sorted [d] μ = .ok (.t (plT (sortP ts))) μ := by
  cases ts with
  | nil =>
    simp only [bfnD, h, List.map_nil, Option.bind_some, toIs, sortI]
    rfl
  | cons t r =>
    have h1 : toIs (((t :: r).map pT).map D.t) = none := by simp [toIs, pT]
    have h2 := toPrs_pT (t :: r)
    have h3 : ((sortP (t :: r)).map fun p => D.t (.tup [.int p.1, .int p.2])) = ((sortP (t :: r)).map pT).map D.t := by rw [List.map_map]; rfl
    simp only [bfnD, h, Option.bind_some, h1, h2, h3]
    rw [mkL_t, plT]
    rw [List.length_map, (sortP_perm _).length_eq, sizeLine_eq]
    exact hl
theorem TiOk.of_sorted {ks : List Int} : ∀ {l : PL} {b : Int × Int}, l.Pairwise (fun a b => lexP b a = false) → l.Nodup → (∀ t ∈ l, t.1 < t.2 ∧ t.1 ∈ ks ∧ t.2 ∈ ks) → (∀ t ∈ l, lt2 b t) → TiOk ks b l
  | [], _, _, _, _, _ => trivial
  | t :: r, b, h1, h2, h3, h4 => by
    rw [List.pairwise_cons] at h1
    rw [List.nodup_cons] at h2
    have ht := h3 t (by simp)
    refine ⟨ht.1, ht.2.1, ht.2.2, h4 t (by simp), TiOk.of_sorted h1.2 h2.2 (fun q hq => h3 q (by simp [hq])) fun q hq => ?_⟩
    have h5 := lexP_no.mp (h1.1 q hq)
    have h6 : t ≠ q := fun e => h2.1 (e ▸ hq)
    have h7 : ¬ (t.1 = q.1 ∧ t.2 = q.2) := fun e => h6 (Prod.ext e.1 e.2)
    show t.1 < q.1 ∨ (t.1 = q.1 ∧ t.2 < q.2)
    omega
theorem toTs_map {α : Type} (f : α → T) (xs : List α) : toTs (xs.map fun x => D.t (f x)) = some (xs.map f) := by
  have := toTs_of (xs.map f)
  rwa [List.map_map] at this
theorem c_numbers_in {k : Nat} (hk : 1 ≤ k) (ps ts : PL) (hn : ps.length ≤ 16777216) (μ : Mem) : callI defs k F_numbers_in [.t (webT ps ts)] μ = .ok (.t (iT (ps.map (·.1)))) μ := by
  obtain ⟨k, rfl, hk⟩ := callI_at (defs := defs) (f := 0) hk
  rw [u_numbers_in, b_numbers_in]
  have e : evE (callI defs k) C_numbers_in_0 [some (.t (webT ps ts)), none, none] μ = .ok (.t (.lst (ps.map fun p => .int p.1))) μ :=
    ev_map (w := []) (fun p => D.t (pT p)) ps (fun p => .int p.1) (by simp only [webT, plT]; walk_at "mi"; rw [List.map_map]; rfl) (by rw [sizeLine_eq]; exact hn) (wok_nil _) (fun p _ => ⟨_, rfl, rfl⟩)
  walk_at "mi"
  rw [iT, List.map_map]
  rfl
/-- a whole number among ns -/
def goodP (ns : List Int) : T → Bool
  | .int i => mI ns i
  | _ => false
def isW : T → Bool
  | .int _ => true
  | _ => false
def noScr : T → Bool
  | .scr _ => false
  | _ => true
theorem c_is_whole_t {k : Nat} (hk : 1 ≤ k) {t : T} (ht : noScr t = true) (μ : Mem) : callI defs k F_is_whole [.t t] μ = .ok (.t (.bl (isW t))) μ := by
  obtain ⟨k, rfl, hk⟩ := callI_at (defs := defs) (f := 0) hk
  rw [u_is_whole, b_is_whole]
  cases t with
  | scr ns => cases ht
  | non => simp only [isW]; walk_at "mi"
  | bl b => simp only [isW]; walk_at "mi"
  | int i => simp only [isW]; walk_at "mi"
  | str x => simp only [isW]; walk_at "mi"
  | lst x => simp only [isW]; walk_at "mi"
  | tup x => simp only [isW]; walk_at "mi"
  | dct x => simp only [isW]; walk_at "mi"
  | dcT x => simp only [isW]; walk_at "mi"
/-! ### what is looked at, of any kind -/
/-- a pair of whole numbers -/
def pv : T → Option (Int × Int)
  | .tup [.int i, .int j] => some (i, j)
  | _ => none
def okT : T → Bool
  | .scr _ => false
  | .tup ts => ts.all noScr
  | _ => true
theorem pv_pT (p : Int × Int) : pv (pT p) = some p := rfl
theorem pv_some {t : T} {p : Int × Int} (h : pv t = some p) : t = pT p := by
  unfold pv at h
  split at h
  · cases h
    rfl
  · cases h
theorem pv_two (a b : T) : (pv (.tup [a, b])).isSome = (isW a && isW b) := by
  cases a <;> cases b <;> rfl
theorem pv_none_of {t : T} (h : ∀ a b, t ≠ .tup [a, b]) : (pv t).isSome = false := by
  unfold pv
  split
  · exact absurd rfl (h _ _)
  · rfl
theorem c_is_pair_t {k : Nat} (hk : 2 ≤ k) {t : T} (ht : okT t = true) (μ : Mem) : callI defs k F_is_pair [.t t] μ = .ok (.t (.bl (pv t).isSome)) μ := by
  obtain ⟨k, rfl, hk⟩ := callI_at (defs := defs) (f := 0) hk
  rw [u_is_pair, b_is_pair]
  cases t with
  | tup ts =>
    have hlen : ts.length ≠ 2 → (((ts.length : Nat) : Int) == 2) = false ∧ (pv (.tup ts)).isSome = false := fun h => ⟨by simp; omega, pv_none_of fun a b e => by cases e; exact h rfl⟩
    by_cases h2 : ts.length = 2
    · obtain ⟨a, b, rfl⟩ : ∃ a b, ts = [a, b] := by
        match ts, h2 with
        | [a, b], _ => exact ⟨a, b, rfl⟩
      simp only [okT, List.all_cons, List.all_nil, Bool.and_true, Bool.and_eq_true] at ht
      have c1 := c_is_whole_t (k := k) (by omega) ht.1 μ
      have c2 := c_is_whole_t (k := k) (by omega) ht.2 μ
      rw [pv_two]
      clear hlen h2 ht
      generalize isW a = wa at *
      cases wa
      · walk_at "mi"
      · walk_at "mi"
    · obtain ⟨h3, h4⟩ := hlen h2
      rw [h4]
      clear hlen h2 ht h4
      walk_at "mi"
  | scr ns => cases ht
  | non => simp only [pv, Option.isSome_none]; walk_at "mi"
  | bl b => simp only [pv, Option.isSome_none]; walk_at "mi"
  | int i => simp only [pv, Option.isSome_none]; walk_at "mi"
  | str x => simp only [pv, Option.isSome_none]; walk_at "mi"
  | lst x => simp only [pv, Option.isSome_none]; walk_at "mi"
  | dct x => simp only [pv, Option.isSome_none]; walk_at "mi"
  | dcT x => simp only [pv, Option.isSome_none]; walk_at "mi"
/-- a loop with a state, that is left at the first thing that does not fit -/
def runS {α σ : Type} (st : σ → α → Option σ) : σ → List α → Sum σ α
  | s, [] => .inl s
  | s, x :: r => match st s x with
    | some s' => runS st s' r
    | none => .inr x
theorem for_st {α σ : Type} {tg : Tg} {b : Envv → MO} {w : Watch} (g : α → D) (st : σ → α → Option σ) (P : σ → Envv → Prop) (o : α → D) {μ : Mem} (hw : WOk μ w) : ∀ (l : List α)
    (_ : ∀ x ∈ l, ∀ s env, P s env → ∃ env1, asgT tg (g x) env = some env1 ∧ (∀ s', st s x = some s' → ∃ env', b env1 μ = some (.nx env', μ) ∧ P s' env') ∧ (st s x = none → b env1 μ = some (.rt (o x), μ)))
    {s : σ} {env : Envv} (_ : P s env), (∀ s', runS st s l = .inl s' → ∃ env', forLoop tg b w (l.map g) env μ = some (.nx env', μ) ∧ P s' env') ∧ (∀ x, runS st s l = .inr x → forLoop tg b w (l.map g) env μ = some (.rt (o x), μ))
  | [], _, s, env, hp => ⟨fun s' h => by
      cases h
      exact ⟨env, by simp only [List.map_nil, forLoop, if_pos hw], hp⟩, fun x h => by cases h⟩
  | x :: l, hs, s, env, hp => by
    obtain ⟨env1, e1, h1, h2⟩ := hs x (by simp) s env hp
    cases hst : st s x with
    | none =>
      have e2 := h2 hst
      refine ⟨fun s' h => ?_, fun y h => ?_⟩
      · simp only [runS, hst] at h
        cases h
      · simp only [runS, hst] at h
        cases h
        simp only [List.map_cons, forLoop, if_pos hw, e1, e2]
    | some s' =>
      obtain ⟨env', e2, hp'⟩ := h1 s' hst
      have ih := for_st g st P o hw l (fun y hy => hs y (by simp [hy])) hp'
      simp only [runS, hst, List.map_cons, forLoop, if_pos hw, e1, e2]
      exact ih
/-- a place's step -/
def plS : Int × Int → T × Nat → Option (Int × Int) := fun s x => match pv x.1 with
  | some p => if s.1 < p.1 ∧ p.1 ≤ 999 ∧ 1 ≤ p.2 ∧ p.2 ≤ 1000000000000 - s.2 then some (p.1, s.2 + p.2) else none
  | none => none
instance (a b : Int × Int) : Decidable (lt2 a b) := by unfold lt2; infer_instance
/-- a tie's step -/
def tiS (ks : List Int) : Int × Int → T × Nat → Option (Int × Int) := fun b x => match pv x.1 with
  | some p => if p.1 < p.2 ∧ p.1 ∈ ks ∧ p.2 ∈ ks ∧ lt2 b p then some p else none
  | none => none
theorem c_place_stands_t {k : Nat} (hk : 3 ≤ k) (s : Int × Int) (x : T × Nat) (hx : okT x.1 = true) (μ : Mem) : callI defs k F_place_stands [.t x.1, .t (.int s.1), .t (.int s.2)] μ = .ok (.t (.bl (plS s x).isSome)) μ := by
  obtain ⟨k, rfl, hk⟩ := callI_at (defs := defs) (f := 0) hk
  rw [u_place_stands, b_place_stands]
  obtain ⟨t, n⟩ := x
  obtain ⟨last, paid⟩ := s
  have c1 := c_is_pair_t (k := k) (by omega) hx μ
  cases hp : pv t with
  | none =>
    simp only [hp, Option.isSome_none] at c1
    simp only [plS, hp, Option.isSome_none]
    clear hx hp
    walk_at "mi"
  | some p =>
    obtain ⟨i, j⟩ := p
    obtain rfl := pv_some hp
    simp only [hp, Option.isSome_some] at c1
    simp only [plS, hp]
    simp only [pT] at *
    clear hx hp
    by_cases h1 : last < i
    · by_cases h2 : i ≤ 999
      · by_cases h3 : 1 ≤ j
        · by_cases h4 : j ≤ 1000000000000 - paid
          · rw [if_pos ⟨h1, h2, h3, h4⟩, Option.isSome_some]
            walk_at "mi"
          · rw [if_neg (fun h => h4 h.2.2.2), Option.isSome_none]
            walk_at "mi"
        · rw [if_neg (fun h => h3 h.2.2.1), Option.isSome_none]
          walk_at "mi"
      · rw [if_neg (fun h => h2 h.2.1), Option.isSome_none]
        walk_at "mi"
    · rw [if_neg (fun h => h1 h.1), Option.isSome_none]
      walk_at "mi"
theorem lexI_no {a b : Int × Int} (h : ¬ lt2 a b) : lexI [a.1, a.2] [b.1, b.2] = false := by
  unfold lexI
  simp only [HT.lexLt]
  unfold lt2 at h
  by_cases h1 : a.1 = b.1
  · rw [if_pos h1]
    by_cases h2 : a.2 = b.2
    · rw [if_pos h2]
    · rw [if_neg h2]
      simp only [decide_eq_false_iff_not]
      omega
  · rw [if_neg h1]
    simp only [decide_eq_false_iff_not]
    omega
theorem c_tie_stands_t {k : Nat} (hk : 3 ≤ k) (b : Int × Int) (x : T × Nat) (hx : okT x.1 = true) {c : Nat} {ps : PL} {μ : Mem} (hc : μ[c]? = some (.dct (bkK ps))) :
    callI defs k F_tie_stands [.t x.1, .t (pT b), .ref c] μ = .ok (.t (.bl (tiS (ps.map (·.1)) b x).isSome)) μ := by
  obtain ⟨k, rfl, hk⟩ := callI_at (defs := defs) (f := 0) hk
  rw [u_tie_stands, b_tie_stands]
  obtain ⟨t, n⟩ := x
  have c1 := c_is_pair_t (k := k) (by omega) hx μ
  cases hp : pv t with
  | none =>
    simp only [hp, Option.isSome_none] at c1
    simp only [tiS, hp, Option.isSome_none]
    clear hx hp hc
    walk_at "mi"
  | some p =>
    obtain rfl := pv_some hp
    simp only [hp, Option.isSome_some] at c1
    simp only [tiS, hp]
    have g0 : ∀ i, i ∉ ps.map (·.1) → (getK (bkK ps) (.inl i)).isSome = false := fun i h => by rw [getK_bk_no h]; rfl
    by_cases h1 : p.1 < p.2
    · by_cases h2 : p.1 ∈ ps.map (·.1)
      · by_cases h3 : p.2 ∈ ps.map (·.1)
        · by_cases h4 : lt2 b p
          · rw [if_pos ⟨h1, h2, h3, h4⟩, Option.isSome_some]
            have k2 := getK_bk h2
            have k3 := getK_bk h3
            have k4 := lexI_lt2 h4
            clear g0 h2 h3 h4 hp hx
            simp only [pT] at *
            walk_at "mi"
            done
          · rw [if_neg (fun h => h4 h.2.2.2), Option.isSome_none]
            have k2 := getK_bk h2
            have k3 := getK_bk h3
            have k4 := lexI_no h4
            clear g0 h2 h3 h4 hp hx
            simp only [pT] at *
            walk_at "mi"
            done
        · rw [if_neg (fun h => h3 h.2.2.1), Option.isSome_none]
          have k2 := getK_bk h2
          have k3 := g0 _ h3
          clear g0 h2 h3 hp hx
          simp only [pT] at *
          walk_at "mi"
          done
      · rw [if_neg (fun h => h2 h.2.1), Option.isSome_none]
        have k2 := g0 _ h2
        clear g0 h2 hp hx
        simp only [pT] at *
        walk_at "mi"
        done
    · rw [if_neg (fun h => h1 h.1), Option.isSome_none]
      clear g0 hp hx
      simp only [pT] at *
      walk_at "mi"
      done
theorem enum_ts (L : List T) : enumD 0 (L.map D.t) = L.zipIdx.map fun p => D.t (.tup [.int (p.2 : Nat), p.1]) := enumD_t L 0
theorem rng_ts (L : List T) : rngD 0 L.length = L.zipIdx.map fun p => D.t (.int (p.2 : Nat)) := by
  rw [rngD_map]
  have h : L.zipIdx.map (fun p => D.t (.int (p.2 : Nat))) = (L.zipIdx.map (·.2)).map fun n => D.t (.int (n : Nat)) := by rw [List.map_map]; rfl
  rw [h, List.zipIdx_map_snd, List.range_eq_range']
  apply List.map_congr_left
  intro i _
  simp
theorem get_ts {L : List T} {x : T × Nat} (h : x ∈ L.zipIdx) : L[x.2]? = some x.1 := by
  obtain ⟨t, n⟩ := x
  have := List.mem_zipIdx_iff_getElem?.mp h
  simpa using this
theorem mem_ts {L : List T} {x : T × Nat} (h : x ∈ L.zipIdx) : x.1 ∈ L := List.mem_of_getElem? (get_ts h)
theorem c_bad_place_t {k : Nat} (hk : 4 ≤ k) (L : List T) (hL : ∀ t ∈ L, okT t = true) {x : T × Nat} (h : runS plS (-1, 0) L.zipIdx = .inr x) (μ : Mem) : callI defs k F_bad_place [.t (.lst L)] μ = .ok (.t (.int (x.2 : Nat))) μ := by
  obtain ⟨k, rfl, hk⟩ := callI_at (defs := defs) (f := 0) hk
  rw [u_bad_place, b_bad_place]
  have e := (for_st (tg := .tp [.nm 3, .nm 4]) (b := fun env => evSs (callI defs k) L_bad_place_0 env) (w := []) (fun (p : T × Nat) => D.t (.tup [.int (p.2 : Nat), p.1])) plS
    (fun s env => ∃ (x3 x4 : Option D), env = [some (.t (.lst L)), some (.t (.int s.1)), some (.t (.int s.2)), x3, x4]) (fun x => .t (.int (x.2 : Nat))) (wok_nil μ) L.zipIdx (fun y hy s env hp => by
      obtain ⟨x3, x4, rfl⟩ := hp
      refine ⟨_, rfl, ?_⟩
      have c1 := c_place_stands_t (k := k) (by omega) s y (hL _ (mem_ts hy)) μ
      obtain ⟨t, n⟩ := y
      refine ⟨fun s' e => ?_, fun e => ?_⟩
      · refine ⟨[some (.t (.lst L)), some (.t (.int s'.1)), some (.t (.int s'.2)), some (.t (.int (n : Nat))), some (.t t)], ?_, _, _, rfl⟩
        rw [e, Option.isSome_some] at c1
        rw [L_bad_place_0]
        unfold plS at e
        dsimp only at e c1 ⊢
        split at e
        · rename_i p hp
          obtain rfl := pv_some hp
          split at e
          · cases e
            clear hp
            simp only [pT] at *
            walk_at "mi"
            done
          · cases e
        · cases e
      · rw [e, Option.isSome_none] at c1
        rw [L_bad_place_0]
        dsimp only at c1 ⊢
        clear e
        walk_at "mi"
        done) (s := (-1, 0)) (env := [some (.t (.lst L)), some (.t (.int (-1))), some (.t (.int 0)), none, none]) ⟨none, none, rfl⟩).2 x h
  rw [← enum_ts] at e
  clear h
  walk_at "mi"
theorem c_bad_tie_t {k : Nat} (hk : 4 ≤ k) (L : List T) (hL : ∀ t ∈ L, okT t = true) {c : Nat} {ps : PL} {μ : Mem} (hc : μ[c]? = some (.dct (bkK ps))) {x : T × Nat} (h : runS (tiS (ps.map (·.1))) (-1, -1) L.zipIdx = .inr x) : callI defs k F_bad_tie [.t (.lst L), .ref c] μ = .ok (.t (.int (x.2 : Nat))) μ := by
  obtain ⟨k, rfl, hk⟩ := callI_at (defs := defs) (f := 0) hk
  rw [u_bad_tie, b_bad_tie]
  have e := (for_st (tg := .tp [.nm 3, .nm 4]) (b := fun env => evSs (callI defs k) L_bad_tie_0 env) (w := []) (fun (p : T × Nat) => D.t (.tup [.int (p.2 : Nat), p.1])) (tiS (ps.map (·.1)))
    (fun s env => ∃ (x3 x4 : Option D), env = [some (.t (.lst L)), some (.ref c), some (.t (pT s)), x3, x4]) (fun x => .t (.int (x.2 : Nat))) (wok_nil μ) L.zipIdx (fun y hy s env hp => by
      obtain ⟨x3, x4, rfl⟩ := hp
      refine ⟨_, rfl, ?_⟩
      have c1 := c_tie_stands_t (k := k) (by omega) s y (hL _ (mem_ts hy)) hc
      obtain ⟨t, n⟩ := y
      refine ⟨fun s' e => ?_, fun e => ?_⟩
      · refine ⟨[some (.t (.lst L)), some (.ref c), some (.t (pT s')), some (.t (.int (n : Nat))), some (.t t)], ?_, _, _, rfl⟩
        rw [e, Option.isSome_some] at c1
        rw [L_bad_tie_0]
        unfold tiS at e
        dsimp only at e c1 ⊢
        split at e
        · rename_i p hp
          obtain rfl := pv_some hp
          split at e
          · cases e
            clear hp hc
            generalize pT s' = q at *
            walk_at "mi"
            done
          · cases e
        · cases e
      · rw [e, Option.isSome_none] at c1
        rw [L_bad_tie_0]
        dsimp only at c1 ⊢
        clear e hc
        walk_at "mi"
        done) (s := (-1, -1)) (env := [some (.t (.lst L)), some (.ref c), some (.t (pT (-1, -1))), none, none]) ⟨none, none, rfl⟩).2 x h
  rw [← enum_ts] at e
  clear h hc
  simp only [pT] at e
  walk_at "mi"
/-! what a thing is, as a web -/
def noTy (t : T) (n : Ty) : Prop := ∃ m, (∀ μ, tyOf μ (.t t) = some m) ∧ isB m n = false
def okL : T → Prop
  | .scr _ => False
  | .lst L => ∀ t ∈ L, okT t = true
  | _ => True
def okW : T → Prop
  | .scr _ => False
  | .tup [x, y] => okL x ∧ okL y
  | _ => True
inductive Due : T → Option (Str × T) → Prop
  | web {t : T} : noTy t .tup → Due t (some ("web", .non))
  | wen {ts : List T} : ts.length ≠ 2 → Due (.tup ts) (some ("web", .non))
  | pl {x y : T} : noTy x .lst → Due (.tup [x, y]) (some ("places", .non))
  | pln {L : List T} {y : T} : 40 < L.length → Due (.tup [.lst L, y]) (some ("places", .non))
  | plb {L : List T} {y : T} {x : T × Nat} : L.length ≤ 40 → (∀ t ∈ L, okT t = true) → runS plS (-1, 0) L.zipIdx = .inr x → Due (.tup [.lst L, y]) (some ("places", .int (x.2 : Nat)))
  | ti {ps : PL} {y : T} : ps.length ≤ 40 → PlOk (-1) 0 ps → noTy y .lst → Due (.tup [plT ps, y]) (some ("ties", .non))
  | tin {ps : PL} {M : List T} : ps.length ≤ 40 → PlOk (-1) 0 ps → 120 < M.length → Due (.tup [plT ps, .lst M]) (some ("ties", .non))
  | tib {ps : PL} {M : List T} {x : T × Nat} : ps.length ≤ 40 → PlOk (-1) 0 ps → M.length ≤ 120 → (∀ t ∈ M, okT t = true) → runS (tiS (ps.map (·.1))) (-1, -1) M.zipIdx = .inr x → Due (.tup [plT ps, .lst M]) (some ("ties", .int (x.2 : Nat)))
  | ok {ps ts : PL} : WebOk ps ts → Due (webT ps ts) none
theorem runS_pl : ∀ (L : List T) (k : Nat) (s s' : Int × Int), runS plS s (L.zipIdx k) = .inl s' → ∃ ps, L = ps.map pT ∧ PlOk s.1 s.2 ps
  | [], _, s, s', _ => ⟨[], rfl, trivial⟩
  | t :: L, k, s, s', h => by
    rw [List.zipIdx_cons, runS] at h
    cases e : plS s (t, k) with
    | none =>
      rw [e] at h
      cases h
    | some s2 =>
      rw [e] at h
      obtain ⟨ps, rfl, h2⟩ := runS_pl L _ _ _ h
      unfold plS at e
      dsimp only at e
      split at e
      · rename_i p hp
        obtain rfl := pv_some hp
        split at e
        · rename_i hc
          cases e
          exact ⟨p :: ps, rfl, hc.1, hc.2.1, hc.2.2.1, hc.2.2.2, h2⟩
        · cases e
      · cases e
theorem runS_ti (ks : List Int) : ∀ (L : List T) (k : Nat) (s s' : Int × Int), runS (tiS ks) s (L.zipIdx k) = .inl s' → ∃ ts, L = ts.map pT ∧ TiOk ks s ts
  | [], _, s, s', _ => ⟨[], rfl, trivial⟩
  | t :: L, k, s, s', h => by
    rw [List.zipIdx_cons, runS] at h
    cases e : tiS ks s (t, k) with
    | none =>
      rw [e] at h
      cases h
    | some s2 =>
      rw [e] at h
      obtain ⟨ts, rfl, h2⟩ := runS_ti ks L _ _ _ h
      unfold tiS at e
      dsimp only at e
      split at e
      · rename_i p hp
        obtain rfl := pv_some hp
        split at e
        · rename_i hc
          cases e
          exact ⟨s2 :: ts, rfl, hc.1, hc.2.1, hc.2.2.1, hc.2.2.2, h2⟩
        · cases e
      · cases e
theorem noTy_lst {t : T} (h : okL t) : (∃ L, t = .lst L ∧ ∀ x ∈ L, okT x = true) ∨ noTy t .lst := by
  cases t with
  | lst L => exact .inl ⟨L, rfl, h⟩
  | scr ns => cases h
  | non => exact .inr ⟨_, fun _ => rfl, rfl⟩
  | bl b => exact .inr ⟨_, fun _ => rfl, rfl⟩
  | int i => exact .inr ⟨_, fun _ => rfl, rfl⟩
  | str x => exact .inr ⟨_, fun _ => rfl, rfl⟩
  | tup x => exact .inr ⟨_, fun _ => rfl, rfl⟩
  | dct x => exact .inr ⟨_, fun _ => rfl, rfl⟩
  | dcT x => exact .inr ⟨_, fun _ => rfl, rfl⟩
theorem noTy_tup {t : T} (h : okW t) : (∃ L, t = .tup L) ∨ noTy t .tup := by
  cases t with
  | tup L => exact .inl ⟨L, rfl⟩
  | scr ns => cases h
  | non => exact .inr ⟨_, fun _ => rfl, rfl⟩
  | bl b => exact .inr ⟨_, fun _ => rfl, rfl⟩
  | int i => exact .inr ⟨_, fun _ => rfl, rfl⟩
  | str x => exact .inr ⟨_, fun _ => rfl, rfl⟩
  | lst x => exact .inr ⟨_, fun _ => rfl, rfl⟩
  | dct x => exact .inr ⟨_, fun _ => rfl, rfl⟩
  | dcT x => exact .inr ⟨_, fun _ => rfl, rfl⟩
theorem due_all {t : T} (h : okW t) : ∃ r, Due t r := by
  rcases noTy_tup h with ⟨ts, rfl⟩ | hn
  · by_cases h2 : ts.length = 2
    · obtain ⟨x, y, rfl⟩ : ∃ a b, ts = [a, b] := by
        match ts, h2 with
        | [a, b], _ => exact ⟨a, b, rfl⟩
      obtain ⟨hx, hy⟩ : okL x ∧ okL y := h
      rcases noTy_lst hx with ⟨L, rfl, hL⟩ | hn
      · by_cases h40 : 40 < L.length
        · exact ⟨_, .pln h40⟩
        · cases e : runS plS (-1, 0) L.zipIdx with
          | inr z => exact ⟨_, .plb (by omega) hL e⟩
          | inl s =>
            obtain ⟨ps, rfl, hp⟩ := runS_pl _ _ _ _ e
            rw [List.length_map] at h40
            rcases noTy_lst hy with ⟨M, rfl, hM⟩ | hn
            · by_cases h120 : 120 < M.length
              · exact ⟨_, .tin (by omega) hp h120⟩
              · cases e2 : runS (tiS (ps.map (·.1))) (-1, -1) M.zipIdx with
                | inr z => exact ⟨_, .tib (by omega) hp (by omega) hM e2⟩
                | inl s =>
                  obtain ⟨ts, rfl, ht⟩ := runS_ti _ _ _ _ _ e2
                  rw [List.length_map] at h120
                  exact ⟨_, .ok ⟨hp, ht, by omega, by omega⟩⟩
            · exact ⟨_, .ti (by omega) hp hn⟩
      · exact ⟨_, .pl hn⟩
    · exact ⟨_, .wen h2⟩
  · exact ⟨_, .web hn⟩
theorem runS_pl_ok : ∀ (ps : PL) (k : Nat) (s : Int × Int), PlOk s.1 s.2 ps → ∃ s', runS plS s ((ps.map pT).zipIdx k) = .inl s'
  | [], _, s, _ => ⟨s, rfl⟩
  | p :: ps, k, s, h => by
    obtain ⟨s', e⟩ := runS_pl_ok ps (k + 1) (p.1, s.2 + p.2) h.2.2.2.2
    refine ⟨s', ?_⟩
    have e1 : plS s (pT p, k) = some (p.1, s.2 + p.2) := by
      unfold plS
      dsimp only
      rw [pv_pT]
      dsimp only
      rw [if_pos ⟨h.1, h.2.1, h.2.2.1, h.2.2.2.1⟩]
    rw [List.map_cons, List.zipIdx_cons, runS, e1]
    exact e
theorem runS_ti_ok (ks : List Int) : ∀ (ps : PL) (k : Nat) (s : Int × Int), TiOk ks s ps → ∃ s', runS (tiS ks) s ((ps.map pT).zipIdx k) = .inl s'
  | [], _, s, _ => ⟨s, rfl⟩
  | p :: ps, k, s, h => by
    obtain ⟨s', e⟩ := runS_ti_ok ks ps (k + 1) p h.2.2.2.2
    refine ⟨s', ?_⟩
    have e1 : tiS ks s (pT p, k) = some p := by
      unfold tiS
      dsimp only
      rw [pv_pT]
      dsimp only
      rw [if_pos ⟨h.1, h.2.1, h.2.2.1, h.2.2.2.1⟩]
    rw [List.map_cons, List.zipIdx_cons, runS, e1]
    exact e
theorem pT_inj {p q : Int × Int} (h : pT p = pT q) : p = q := by
  obtain ⟨a, b⟩ := p
  obtain ⟨c, d⟩ := q
  simp only [pT, T.tup.injEq, List.cons.injEq, T.int.injEq, and_true] at h
  rw [h.1, h.2]
theorem map_pT_inj : ∀ {a b : PL}, a.map pT = b.map pT → a = b
  | [], [], _ => rfl
  | [], _ :: _, h => by simp at h
  | _ :: _, [], h => by simp at h
  | x :: a, y :: b, h => by
    simp only [List.map_cons, List.cons.injEq] at h
    rw [pT_inj h.1, map_pT_inj h.2]
def noW (s : Str) (t : T) : Exn := ⟨"NoWeb", [("number", t), ("part", .str s)]⟩
theorem look_fill {F : Orac} {ps : PL} (hp : PlOk (-1) 0 ps) (hn : ps.length ≤ 40) (a0 a1 a2 a3 : Option D) (μ : Mem) : ∃ x5 x6 : Option D, forLoop (.tp [.nm 5, .nm 6]) (fun env => evSs F L_look_at_web_0 env) [] ((ps.map pT).map D.t) [a0, a1, a2, a3, some (.ref μ.length), none, none] (μ ++ [.dct []]) = some (.nx [a0, a1, a2, a3, some (.ref μ.length), x5, x6], μ ++ [.dct (bkK ps)]) := by
  obtain ⟨env', μ', e2, x5, x6, rfl, rfl⟩ := for_run (tg := .tp [.nm 5, .nm 6]) (b := fun env => evSs F L_look_at_web_0 env) (w := []) (fun (p : Int × Int) => D.t (pT p)) ps
    (fun pre env μ' => ∃ (x5 x6 : Option D), env = [a0, a1, a2, a3, some (.ref μ.length), x5, x6] ∧ μ' = μ ++ [.dct (bkK pre)])
    (env := [a0, a1, a2, a3, some (.ref μ.length), none, none]) (μ := μ ++ [.dct []])
    ⟨none, none, rfl, rfl⟩ (fun _ _ _ _ => wok_nil _) (fun pre x post env μ' hx hq => by
      obtain ⟨x5, x6, rfl, rfl⟩ := hq
      obtain ⟨i, j⟩ := x
      refine ⟨_, rfl, ?_⟩
      have e1 := putK_bk (hx ▸ hp).notin
      have hl : (bkK pre).length < 16777216 := by
        have := congrArg List.length hx
        simp [bkK] at *
        omega
      refine ⟨_, _, ?_, some (.t (.int i)), some (.t (.int j)), rfl, rfl⟩
      rw [L_look_at_web_0]
      clear hp hx
      walk_at "mi")
  have e3 : ps.map (fun p => D.t (pT p)) = (ps.map pT).map D.t := by simp
  rw [e3] at e2
  exact ⟨x5, x6, e2⟩
theorem isi_no {F : Orac} {a : E} {env : Envv} {μ : Mem} {t : T} {n : Ty} (he : evE F a env μ = .ok (.t t) μ) (h : noTy t n) : evE F (.isi a [n]) env μ = .ok (.t (.bl false)) μ := by
  obtain ⟨m, h1, h2⟩ := h
  simp only [evE, bnd_ap, he, isiD, h1, isAny, h2, Bool.or_false]
set_option maxHeartbeats 2000000 in
theorem c_look_no {k : Nat} (hk : 5 ≤ k) {t : T} {s : Str} {u : T} (h : Due t (some (s, u))) (μ : Mem) : callI defs k F_look_at_web [.t t] μ = .ex (noW s u) μ := by
  obtain ⟨k, rfl, hk⟩ := callI_at (defs := defs) (f := 0) hk
  rw [u_look_at_web, b_look_at_web]
  have x0 := leaveX0 μ (noW s u)
  unfold noW at *
  cases h with
  | web hn =>
    have hq : evE (callI defs k) (.isi (.var 0) [.tup]) [some (.t t), none, none, none, none, none, none] μ = .ok (.t (.bl false)) μ := isi_no rfl hn
    generalize (E.isi (.var 0) [.tup]) = q at *
    clear hn
    walk_at "mi"
    exact x0
  | wen hn =>
    rename_i ts
    have h2 : (((ts.length : Nat) : Int) == 2) = false := by simp; omega
    clear hn
    walk_at "mi"
    exact x0
  | pl hn =>
    rename_i x y
    have hq : evE (callI defs k) (.isi (.var 1) [.lst]) [some (.t (.tup [x, y])), some (.t x), some (.t y), none, none, none, none] μ = .ok (.t (.bl false)) μ := isi_no rfl hn
    generalize (E.isi (.var 1) [.lst]) = q at *
    clear hn
    walk_at "mi"
    exact x0
  | pln hn =>
    rename_i L y
    have h1 : (40 : Int) < (L.length : Int) := by omega
    clear hn
    walk_at "mi"
    exact x0
  | plb hn hL e =>
    rename_i L y x
    have h1 : ¬ ((40 : Int) < (L.length : Int)) := by omega
    have c1 := c_bad_place_t (k := k) (by omega) L hL e μ
    clear hn hL e
    walk_at "mi"
    exact x0
  | ti hn hp hy =>
    rename_i ps y
    have h1 : ¬ ((40 : Int) < (ps.length : Int)) := by omega
    have c1 := c_bad_place (k := k) (by omega) ps μ hp
    have hq : evE (callI defs k) (.isi (.var 2) [.lst]) [some (.t (.tup [plT ps, y])), some (.t (plT ps)), some (.t y), some (.t .non), none, none, none] μ = .ok (.t (.bl false)) μ := isi_no rfl hy
    generalize (E.isi (.var 2) [.lst]) = q at *
    simp only [plT] at *
    clear hn hp hy
    walk_at "mi"
    exact x0
  | tin hn hp hm =>
    rename_i ps M
    have h1 : ¬ ((40 : Int) < (ps.length : Int)) := by omega
    have h2 : (120 : Int) < (M.length : Int) := by omega
    have c1 := c_bad_place (k := k) (by omega) ps μ hp
    simp only [plT] at *
    clear hn hp hm
    walk_at "mi"
    exact x0
  | tib hn hp hm hM e =>
    rename_i ps M x
    have h1 : ¬ ((40 : Int) < (ps.length : Int)) := by omega
    have h2 : ¬ ((120 : Int) < (M.length : Int)) := by omega
    have c1 := c_bad_place (k := k) (by omega) ps μ hp
    obtain ⟨x5, x6, e2⟩ := look_fill (F := callI defs k) hp hn (some (.t (.tup [plT ps, .lst M]))) (some (.t (plT ps))) (some (.t (.lst M))) (some (.t .non)) μ
    have c2 := c_bad_tie_t (k := k) (by omega) M hM (c := μ.length) (μ := μ ++ [.dct (bkK ps)]) (by simp) e
    have x1 := leaveX1 μ [.dct (bkK ps)] (noW "ties" (.int (x.2 : Nat)))
    unfold noW at x1
    simp only [plT] at *
    clear hn hp hm hM e
    walk_at "mi"
    exact x1
/-! ### lists in cells, or frozen -/
structure LT (μ : Mem) (d : D) (L : List T) : Prop where
  lst : lstOf μ d = some (L.map D.t)
  lsn : lstN μ d = some (L.map D.t)
  ty : tyOf μ d = some .lst
  wat : WOk μ (watchL d (L.map D.t))
theorem LT.frz (μ : Mem) (L : List T) : LT μ (.t (.lst L)) L := ⟨rfl, rfl, rfl, wok_nil _⟩
theorem LT.cel {μ : Mem} {c : Nat} {L : List T} (h : μ[c]? = some (.lst (L.map D.t))) : LT μ (.ref c) L := ⟨by simp only [lstOf, h], by simp only [lstN, lstOf, h], by simp only [tyOf, h], fun p hp => by
  have e : p = (c, L.map D.t) := by simpa [watchL] using hp
  rw [e]
  exact h⟩
theorem LT.app {μ : Mem} {d : D} {L : List T} (h : LT μ d L) (ν : Mem) : LT (μ ++ ν) d L := by
  cases d with
  | t x =>
    have h1 := h.lst
    cases x with
    | lst ts =>
      have e : L = ts := by
        have : (some (ts.map D.t)) = some (L.map D.t) := h1
        have := Option.some.inj this
        exact ((List.map_inj_right (fun a b e => by cases e; rfl)).mp this).symm
      rw [e]
      exact .frz _ _
    | _ => have h3 := h.ty; first | (simp [lstOf] at h1; done) | (simp [tyOf] at h3; done)
  | ref c =>
    have h1 := h.lst
    rw [lO_ref] at h1
    split at h1
    · rename_i ds e
      cases h1
      exact .cel (by rw [List.getElem?_append_left (List.getElem?_eq_some_iff.mp e).1]; exact e)
    · cases h1
  | tp ds =>
    have h1 := h.lst
    cases h1
theorem LT.len {μ : Mem} {d : D} {L : List T} (h : LT μ d L) : bfnD true .len [d] μ = .ok (.t (.int (L.length : Nat))) μ := by
  cases d with
  | t x =>
    have h1 := h.lst
    cases x with
    | lst ts =>
      have : (some (ts.map D.t)) = some (L.map D.t) := h1
      have := congrArg List.length (Option.some.inj this)
      simp only [List.length_map] at this
      rw [← this]
      simp only [bfnD, lO_lst, List.length_map]
    | _ => have h3 := h.ty; first | (simp [lstOf] at h1; done) | (simp [tyOf] at h3; done)
  | ref c =>
    have h1 := h.lst
    simp only [bfnD, h1, List.length_map]
  | tp ds =>
    have h1 := h.lst
    cases h1
theorem c_bad_place_d {k : Nat} (hk : 4 ≤ k) {d : D} {L : List T} {μ : Mem} (h : LT μ d L) (hL : ∀ t ∈ L, okT t = true) :
    (∀ s', runS plS (-1, 0) L.zipIdx = .inl s' → callI defs k F_bad_place [d] μ = .ok (.t .non) μ) ∧ (∀ x, runS plS (-1, 0) L.zipIdx = .inr x → callI defs k F_bad_place [d] μ = .ok (.t (.int (x.2 : Nat))) μ) := by
  obtain ⟨k, rfl, hk⟩ := callI_at (defs := defs) (f := 0) hk
  rw [u_bad_place, b_bad_place]
  have e := (for_st (tg := .tp [.nm 3, .nm 4]) (b := fun env => evSs (callI defs k) L_bad_place_0 env) (w := watchL d (L.map D.t)) (fun (p : T × Nat) => D.t (.tup [.int (p.2 : Nat), p.1])) plS
    (fun s env => ∃ (x3 x4 : Option D), env = [some d, some (.t (.int s.1)), some (.t (.int s.2)), x3, x4]) (fun x => .t (.int (x.2 : Nat))) h.wat L.zipIdx (fun y hy s env hp => by
      obtain ⟨x3, x4, rfl⟩ := hp
      refine ⟨_, rfl, ?_⟩
      have c1 := c_place_stands_t (k := k) (by omega) s y (hL _ (mem_ts hy)) μ
      obtain ⟨t, n⟩ := y
      refine ⟨fun s' e => ?_, fun e => ?_⟩
      · refine ⟨[some d, some (.t (.int s'.1)), some (.t (.int s'.2)), some (.t (.int (n : Nat))), some (.t t)], ?_, _, _, rfl⟩
        rw [e, Option.isSome_some] at c1
        rw [L_bad_place_0]
        unfold plS at e
        dsimp only at e c1 ⊢
        split at e
        · rename_i p hp
          obtain rfl := pv_some hp
          split at e
          · cases e
            clear hp h
            simp only [pT] at *
            walk_at "mi"
            done
          · cases e
        · cases e
      · rw [e, Option.isSome_none] at c1
        rw [L_bad_place_0]
        dsimp only at c1 ⊢
        clear e h
        walk_at "mi"
        done) (s := (-1, 0)) (env := [some d, some (.t (.int (-1))), some (.t (.int 0)), none, none]) ⟨none, none, rfl⟩)
  rw [← enum_ts] at e
  have h1 := h.lst
  refine ⟨fun s' hs => ?_, fun x hx => ?_⟩
  · obtain ⟨env', e1, x3, x4, rfl⟩ := e.1 s' hs
    clear e hs hL h
    simp only [evSs, evS, evE, evI, bnd_ap, pur_ap, lift_ap, outO_ap, andThen_ap, asgT, toI, List.getElem?_cons_zero, List.getElem?_cons_succ, List.set_cons_zero, List.set_cons_succ, h1, Int.reduceNeg, e1, fin, leave_t0]
  · have e1 := e.2 x hx
    clear e hx hL h
    simp only [evSs, evS, evE, evI, bnd_ap, pur_ap, lift_ap, outO_ap, andThen_ap, asgT, toI, List.getElem?_cons_zero, List.getElem?_cons_succ, List.set_cons_zero, List.set_cons_succ, h1, Int.reduceNeg, e1, fin, leave_t0]
theorem c_bad_tie_d {k : Nat} (hk : 4 ≤ k) {d : D} {L : List T} {c : Nat} {ps : PL} {μ : Mem} (h : LT μ d L) (hL : ∀ t ∈ L, okT t = true) (hc : μ[c]? = some (.dct (bkK ps))) :
    (∀ s', runS (tiS (ps.map (·.1))) (-1, -1) L.zipIdx = .inl s' → callI defs k F_bad_tie [d, .ref c] μ = .ok (.t .non) μ) ∧ (∀ x, runS (tiS (ps.map (·.1))) (-1, -1) L.zipIdx = .inr x → callI defs k F_bad_tie [d, .ref c] μ = .ok (.t (.int (x.2 : Nat))) μ) := by
  obtain ⟨k, rfl, hk⟩ := callI_at (defs := defs) (f := 0) hk
  rw [u_bad_tie, b_bad_tie]
  have e := (for_st (tg := .tp [.nm 3, .nm 4]) (b := fun env => evSs (callI defs k) L_bad_tie_0 env) (w := watchL d (L.map D.t)) (fun (p : T × Nat) => D.t (.tup [.int (p.2 : Nat), p.1])) (tiS (ps.map (·.1)))
    (fun s env => ∃ (x3 x4 : Option D), env = [some d, some (.ref c), some (.t (pT s)), x3, x4]) (fun x => .t (.int (x.2 : Nat))) h.wat L.zipIdx (fun y hy s env hp => by
      obtain ⟨x3, x4, rfl⟩ := hp
      refine ⟨_, rfl, ?_⟩
      have c1 := c_tie_stands_t (k := k) (by omega) s y (hL _ (mem_ts hy)) hc
      obtain ⟨t, n⟩ := y
      refine ⟨fun s' e => ?_, fun e => ?_⟩
      · refine ⟨[some d, some (.ref c), some (.t (pT s')), some (.t (.int (n : Nat))), some (.t t)], ?_, _, _, rfl⟩
        rw [e, Option.isSome_some] at c1
        rw [L_bad_tie_0]
        unfold tiS at e
        dsimp only at e c1 ⊢
        split at e
        · rename_i p hp
          obtain rfl := pv_some hp
          split at e
          · cases e
            clear hp hc h
            generalize pT s' = q at *
            walk_at "mi"
            done
          · cases e
        · cases e
      · rw [e, Option.isSome_none] at c1
        rw [L_bad_tie_0]
        dsimp only at c1 ⊢
        clear e hc h
        walk_at "mi"
        done) (s := (-1, -1)) (env := [some d, some (.ref c), some (.t (pT (-1, -1))), none, none]) ⟨none, none, rfl⟩)
  rw [← enum_ts] at e
  have h1 := h.lst
  have m2 : ∀ x y : Int, ∀ μ, mkTup [D.t (.int x), .t (.int y)] μ = .ok (.t (pT (x, y))) μ := fun x y μ => rfl
  refine ⟨fun s' hs => ?_, fun x hx => ?_⟩
  · obtain ⟨env', e1, x3, x4, rfl⟩ := e.1 s' hs
    clear e hs hL h hc
    simp only [evSs, evS, evE, evEs, evI, bnd_ap, pur_ap, lift_ap, outO_ap, andThen_ap, asgT, toI, m2, List.getElem?_cons_zero, List.getElem?_cons_succ, List.set_cons_zero, List.set_cons_succ, h1, Int.reduceNeg, e1, fin, leave_t0]
  · have e1 := e.2 x hx
    clear e hx hL h hc
    simp only [evSs, evS, evE, evEs, evI, bnd_ap, pur_ap, lift_ap, outO_ap, andThen_ap, asgT, toI, m2, List.getElem?_cons_zero, List.getElem?_cons_succ, List.set_cons_zero, List.set_cons_succ, h1, Int.reduceNeg, e1, fin, leave_t0]
theorem fill_d {F : Orac} {ps : PL} {d : D} {μ : Mem} (h : LT μ d (ps.map pT)) (hp : PlOk (-1) 0 ps) (hn : ps.length ≤ 40) (a0 a2 a3 : Option D) : ∃ x5 x6 : Option D, forLoop (.tp [.nm 5, .nm 6]) (fun env => evSs F L_look_at_web_0 env) (watchL d ((ps.map pT).map D.t)) ((ps.map pT).map D.t) [a0, some d, a2, a3, some (.ref μ.length), none, none] (μ ++ [.dct []]) = some (.nx [a0, some d, a2, a3, some (.ref μ.length), x5, x6], μ ++ [.dct (bkK ps)]) := by
  obtain ⟨env', μ', e2, x5, x6, rfl, rfl⟩ := for_run (tg := .tp [.nm 5, .nm 6]) (b := fun env => evSs F L_look_at_web_0 env) (w := watchL d ((ps.map pT).map D.t)) (fun (p : Int × Int) => D.t (pT p)) ps
    (fun pre env μ' => ∃ (x5 x6 : Option D), env = [a0, some d, a2, a3, some (.ref μ.length), x5, x6] ∧ μ' = μ ++ [.dct (bkK pre)])
    (env := [a0, some d, a2, a3, some (.ref μ.length), none, none]) (μ := μ ++ [.dct []])
    ⟨none, none, rfl, rfl⟩ (fun pre env μ' ⟨_, _, _, e⟩ => e ▸ (h.app _).wat) (fun pre x post env μ' hx hq => by
      obtain ⟨x5, x6, rfl, rfl⟩ := hq
      obtain ⟨i, j⟩ := x
      refine ⟨_, rfl, ?_⟩
      have e1 := putK_bk (hx ▸ hp).notin
      have hl : (bkK pre).length < 16777216 := by
        have := congrArg List.length hx
        simp [bkK] at *
        omega
      refine ⟨_, _, ?_, some (.t (.int i)), some (.t (.int j)), rfl, rfl⟩
      rw [L_look_at_web_0]
      clear hp hx h
      walk_at "mi")
  have e3 : ps.map (fun p => D.t (pT p)) = (ps.map pT).map D.t := by simp
  rw [e3] at e2
  exact ⟨x5, x6, e2⟩
theorem leave_tx (μ : Mem) (x : Exn) (ν : Mem) : leaveX μ x (μ ++ ν) = .ex x μ := by
  unfold leaveX
  rw [if_pos (back_app μ ν), List.take_left]
theorem ok_pTs (a : PL) : ∀ t ∈ a.map pT, okT t = true := fun t ht => by
  obtain ⟨p, _, rfl⟩ := List.mem_map.mp ht
  rfl
/-- two lists of pairs in a tuple are looked at -/
theorem c_look_d {k : Nat} (hk : 5 ≤ k) {ps ts : PL} {d1 d2 : D} {μ : Mem} (h1 : LT μ d1 (ps.map pT)) (h2 : LT μ d2 (ts.map pT)) :
    (WebOk ps ts → callI defs k F_look_at_web [.tp [d1, d2]] μ = .ok (.t .non) μ) ∧ (¬ WebOk ps ts → ∃ s u, callI defs k F_look_at_web [.tp [d1, d2]] μ = .ex (noW s u) μ) := by
  obtain ⟨k, rfl, hk⟩ := callI_at (defs := defs) (f := 0) hk
  rw [u_look_at_web, b_look_at_web]
  have q0 : ∀ x1 x2 x3 x4 x5 x6 : Option D, evE (callI defs k) (.or (.not (.isi (.var 0) [.tup])) (.cmp .ne (.bfn true .len (.cons (.var 0) .nil)) (.cst (.int 2)))) [some (.tp [d1, d2]), x1, x2, x3, x4, x5, x6] μ = .ok (.t (.bl false)) μ := fun x1 x2 x3 x4 x5 x6 => rfl
  have i1 : ∀ x0 x2 x3 x4 x5 x6 : Option D, evE (callI defs k) (.isi (.var 1) [.lst]) [x0, some d1, x2, x3, x4, x5, x6] μ = .ok (.t (.bl true)) μ := fun x0 x2 x3 x4 x5 x6 => by
    have := h1.ty
    simp only [evE, bnd_ap, List.getElem?_cons_zero, List.getElem?_cons_succ, isiD, this]
    rfl
  have i2 : ∀ x0 x1 x3 x4 x5 x6 : Option D, evE (callI defs k) (.isi (.var 2) [.lst]) [x0, x1, some d2, x3, x4, x5, x6] μ = .ok (.t (.bl true)) μ := fun x0 x1 x3 x4 x5 x6 => by
    have := h2.ty
    simp only [evE, bnd_ap, List.getElem?_cons_zero, List.getElem?_cons_succ, isiD, this]
    rfl
  have n1 := h1.len
  have n2 := h2.len
  rw [List.length_map] at n1 n2
  have g1 : ∀ n : Nat, ∀ μ, cmpD .gt (.t (.int (n : Nat))) (.t (.int 40)) μ = .ok (.t (.bl (decide ((40 : Int) < (n : Int))))) μ := fun n μ => rfl
  have g2 : ∀ n : Nat, ∀ μ, cmpD .gt (.t (.int (n : Nat))) (.t (.int 120)) μ = .ok (.t (.bl (decide ((120 : Int) < (n : Int))))) μ := fun n μ => rfl
  have nn : ∀ μ, cmpD .notN (.t .non) (.t .non) μ = .ok (.t (.bl false)) μ := fun μ => rfl
  have ni : ∀ n : Nat, ∀ μ, cmpD .notN (.t (.int (n : Nat))) (.t .non) μ = .ok (.t (.bl true)) μ := fun n μ => rfl
  have t0 : tupOf (.tp [d1, d2]) = some [d1, d2] := rfl
  have tt : ∀ s u, toTs [D.t (.str s), .t u] = some [.str s, u] := fun s u => rfl
  have zz : ∀ (s : Str) (u : T), (List.zip (["part", "number"] : List Str) [T.str s, u]).reverse = [(("number" : Str), u), (("part" : Str), T.str s)] := fun s u => rfl
  have bp := c_bad_place_d (k := k) (by omega) h1 (ok_pTs ps)
  have lt0 := leave_t0 μ .non
  generalize hq : (E.or (.not (.isi (.var 0) [.tup])) (.cmp .ne (.bfn true .len (.cons (.var 0) .nil)) (.cst (.int 2)))) = Q0 at *
  generalize hq1 : (E.isi (.var 1) [.lst]) = Q1 at *
  generalize hq2 : (E.isi (.var 2) [.lst]) = Q2 at *
  clear hq hq1 hq2
  by_cases h40 : 40 < ps.length
  · have e40 : decide ((40 : Int) < (ps.length : Int)) = true := by simp; omega
    have x0 := leave_tx μ (noW "places" .non) []
    rw [List.append_nil] at x0
    refine ⟨fun hw => absurd hw.np (by omega), fun _ => ⟨"places", .non, ?_⟩⟩
    unfold noW at *
    simp only [evSs, evS, evE, evEs, bnd_ap, pur_ap, lift_ap, outO_ap, andThen_ap, ite_ap, ite_apO, toB_ap, asgT, asgTs, List.getElem?_cons_zero, List.getElem?_cons_succ, List.set_cons_zero, List.set_cons_succ, q0, i1, n1, g1, e40, t0, tt, zz, Bool.not_true, Bool.false_eq_true, if_false, if_true, List.length_cons, List.length_nil, fin, x0]
  · have e40 : decide ((40 : Int) < (ps.length : Int)) = false := by simp; omega
    cases hr : runS plS (-1, 0) (ps.map pT).zipIdx with
    | inr x =>
      have c1 := bp.2 x hr
      have x0 := leave_tx μ (noW "places" (.int (x.2 : Nat))) []
      rw [List.append_nil] at x0
      refine ⟨fun hw => ?_, fun _ => ⟨"places", .int (x.2 : Nat), ?_⟩⟩
      · obtain ⟨s', e⟩ := runS_pl_ok ps 0 (-1, 0) hw.pl
        rw [e] at hr
        cases hr
      · unfold noW at *
        clear bp hr h1 h2
        simp only [evSs, evS, evE, evEs, bnd_ap, pur_ap, lift_ap, outO_ap, andThen_ap, ite_ap, ite_apO, toB_ap, asgT, asgTs, List.getElem?_cons_zero, List.getElem?_cons_succ, List.set_cons_zero, List.set_cons_succ, q0, i1, n1, g1, e40, t0, tt, zz, c1, ni, Bool.not_true, Bool.false_eq_true, if_false, if_true, List.length_cons, List.length_nil, fin, x0]
    | inl s' =>
      have c1 := bp.1 s' hr
      obtain ⟨ps', e, hp⟩ := runS_pl _ _ _ _ hr
      obtain rfl := map_pT_inj e
      by_cases h120 : 120 < ts.length
      · have e120 : decide ((120 : Int) < (ts.length : Int)) = true := by simp; omega
        have x0 := leave_tx μ (noW "ties" .non) []
        rw [List.append_nil] at x0
        refine ⟨fun hw => absurd hw.nt (by omega), fun _ => ⟨"ties", .non, ?_⟩⟩
        unfold noW at *
        clear bp hr h1 h2
        simp only [evSs, evS, evE, evEs, bnd_ap, pur_ap, lift_ap, outO_ap, andThen_ap, ite_ap, ite_apO, toB_ap, asgT, asgTs, List.getElem?_cons_zero, List.getElem?_cons_succ, List.set_cons_zero, List.set_cons_succ, q0, i1, i2, n1, n2, g1, g2, e40, e120, t0, tt, zz, c1, nn, Bool.not_true, Bool.false_eq_true, if_false, if_true, List.length_cons, List.length_nil, fin, x0]
      · have e120 : decide ((120 : Int) < (ts.length : Int)) = false := by simp; omega
        have bt := c_bad_tie_d (k := k) (by omega) (h2.app [.dct (bkK ps)]) (ok_pTs ts) (c := μ.length) (ps := ps) (by rw [getA0]; rfl)
        have l1 := (h1.app [.dct []]).lst
        cases hr2 : runS (tiS (ps.map (·.1))) (-1, -1) (ts.map pT).zipIdx with
        | inr x =>
          have c2 := bt.2 x hr2
          obtain ⟨x5, x6, e2⟩ := fill_d (F := callI defs k) h1 hp (by omega) (some (.tp [d1, d2])) (some d2) (some (.t .non))
          have x0 := leave_tx μ (noW "ties" (.int (x.2 : Nat))) [.dct (bkK ps)]
          refine ⟨fun hw => ?_, fun _ => ⟨"ties", .int (x.2 : Nat), ?_⟩⟩
          · obtain ⟨s', e⟩ := runS_ti_ok _ ts 0 (-1, -1) hw.ti
            rw [e] at hr2
            cases hr2
          · unfold noW at *
            clear bp bt hr hr2 h1 h2
            simp only [evSs, evS, evE, evEs, evI, bnd_ap, pur_ap, lift_ap, outO_ap, andThen_ap, ite_ap, ite_apO, toB_ap, asgT, asgTs, List.getElem?_cons_zero, List.getElem?_cons_succ, List.set_cons_zero, List.set_cons_succ, q0, i1, i2, n1, n2, g1, g2, e40, e120, t0, tt, zz, c1, c2, nn, ni, l1, e2, Bool.not_true, Bool.false_eq_true, if_false, if_true, List.length_cons, List.length_nil, fin, x0]
        | inl s2 =>
          have c2 := bt.1 s2 hr2
          obtain ⟨ts', e, ht⟩ := runS_ti _ _ _ _ _ hr2
          obtain rfl := map_pT_inj e
          obtain ⟨x5, x6, e2⟩ := fill_d (F := callI defs k) h1 hp (by omega) (some (.tp [d1, d2])) (some d2) (some (.t .non))
          have x0 := leave_t μ [.dct (bkK ps)] .non
          refine ⟨fun _ => ?_, fun hn => absurd ⟨hp, ht, by omega, by omega⟩ hn⟩
          clear bp bt hr hr2 h1 h2
          simp only [evSs, evS, evE, evEs, evI, bnd_ap, pur_ap, lift_ap, outO_ap, andThen_ap, ite_ap, ite_apO, toB_ap, asgT, asgTs, List.getElem?_cons_zero, List.getElem?_cons_succ, List.set_cons_zero, List.set_cons_succ, q0, i1, i2, n1, n2, g1, g2, e40, e120, t0, c1, c2, nn, l1, e2, Bool.not_true, Bool.false_eq_true, if_false, fin, x0]
theorem try_ap {F : Orac} {b : Ss} {c : Str} {tab : List (Str × Bool)} {i : Option Nat} {h : HSs} {env : Envv} {μ : Mem} : evS F (.tryx b c tab i h) env μ = tryO tab i (fun x env => evHSs x h env) (evSs F b env μ) := by
  rw [evS]
def Comm (a b : PL) : Prop := ∃ n ∈ b.map (·.1), n ∈ a.map (·.1)
def Refu (P1 T1 P2 T2 : PL) : Prop := Comm P1 P2 ∨ ¬ WebOk (sortP (P1 ++ P2)) (sortP (T1 ++ T2))
theorem sortP_len (l : PL) : (sortP l).length = l.length := (sortP_perm l).length_eq
theorem pl_add (a b : PL) (μ : Mem) (h : a.length + b.length ≤ 16777216) : binD .add (.t (plT a)) (.t (plT b)) μ = .ok (.t (plT (a ++ b))) μ := by
  have e := toTs_of ((a ++ b).map pT)
  rw [List.map_append, List.map_append] at e
  simp only [binD, plT, lstN, lstOf, mkL, List.length_append, List.length_map, sizeLine_eq, if_pos h, e, List.map_append]
theorem sorted_plc {μ : Mem} {d : D} {ts : PL} (h : lstOf μ d = some ((ts.map pT).map D.t)) (hl : ts.length ≤ 16777216) : bfnD false .sorted [d] μ = .ok (.ref μ.length) (μ ++ [.lst (((sortP ts).map pT).map D.t)]) := by
  cases ts with
  | nil =>
    simp only [bfnD, h, List.map_nil, Option.bind_some, toIs, sortI]
    rfl
  | cons t r =>
    have h1 : toIs (((t :: r).map pT).map D.t) = none := by simp [toIs, pT]
    have h2 := toPrs_pT (t :: r)
    have h3 : ((sortP (t :: r)).map fun p => D.t (.tup [.int p.1, .int p.2])) = ((sortP (t :: r)).map pT).map D.t := by rw [List.map_map]; rfl
    simp only [bfnD, h, Option.bind_some, h1, h2, h3]
    rw [mkL_c]
    rw [List.length_map, List.length_map, sortP_len, sizeLine_eq]
    exact hl
/-- the numbers of the other one are gone through -/
theorem comm_loop {k : Nat} (hk : 1 ≤ k) (B : Ss) (hB : B = L_beside_0) {P1 T1 P2 T2 : PL} (h1 : P1.length ≤ 10000) (μ : Mem) :
    (¬ Comm P1 P2 → ∃ x, forLoop (.nm 2) (fun env => evSs (callI defs k) B env) [] (((P2.map (·.1)).map T.int).map D.t) [some (.t (webT P1 T1)), some (.t (webT P2 T2)), none, none] μ = some (.nx [some (.t (webT P1 T1)), some (.t (webT P2 T2)), x, none], μ)) ∧
    (Comm P1 P2 → ∃ env, forLoop (.nm 2) (fun env => evSs (callI defs k) B env) [] (((P2.map (·.1)).map T.int).map D.t) [some (.t (webT P1 T1)), some (.t (webT P2 T2)), none, none] μ = some (.ex ⟨"NoJoin", []⟩ env, μ)) := by
  subst hB
  have hn := c_numbers_in (k := k) hk P1 T1 (by omega) μ
  have hm := fun i => mem_mI (P1.map (·.1)) i μ
  have step : ∀ (n : Int) (x : Option D), evSs (callI defs k) L_beside_0 [some (.t (webT P1 T1)), some (.t (webT P2 T2)), some (.t (.int n)), x] μ = if mI (P1.map (·.1)) n = true then some (.ex ⟨"NoJoin", []⟩ [some (.t (webT P1 T1)), some (.t (webT P2 T2)), some (.t (.int n)), x], μ) else some (.nx [some (.t (webT P1 T1)), some (.t (webT P2 T2)), some (.t (.int n)), x], μ) := fun n x => by
    rw [L_beside_0]
    simp only [evSs, evS, evE, evEs, bnd_ap, pur_ap, lift_ap, outO_ap, andThen_ap, toB_ap, ite_apO, List.getElem?_cons_zero, List.getElem?_cons_succ, hn, cmpD, hm]
    cases mI (P1.map (·.1)) n
    · rfl
    · rfl
  constructor
  · intro hc
    obtain ⟨env', μ', e, x, rfl, rfl⟩ := for_run (tg := .nm 2) (b := fun env => evSs (callI defs k) L_beside_0 env) (w := []) (fun (n : Int) => D.t (.int n)) (P2.map (·.1))
      (fun pre env μ' => ∃ (x : Option D), env = [some (.t (webT P1 T1)), some (.t (webT P2 T2)), x, none] ∧ μ = μ')
      (env := [some (.t (webT P1 T1)), some (.t (webT P2 T2)), none, none]) (μ := μ) ⟨none, rfl, rfl⟩ (fun _ _ _ _ => wok_nil _) (fun pre n post env μ' hx hp => by
        obtain ⟨x, rfl, rfl⟩ := hp
        refine ⟨_, rfl, _, _, ?_, some (.t (.int n)), rfl, rfl⟩
        have hno : ¬ mI (P1.map (·.1)) n = true := fun h => hc ⟨n, by rw [hx]; simp, mI_iff.mp h⟩
        show evSs (callI defs k) L_beside_0 [some (.t (webT P1 T1)), some (.t (webT P2 T2)), some (.t (.int n)), none] μ = _
        rw [step, if_neg hno])
    rw [← ints_map] at e
    exact ⟨x, e⟩
  · rintro ⟨n, hn2, hn1⟩
    have hall : (P2.map (·.1)).all (fun n => !mI (P1.map (·.1)) n) = false := by
      rw [← Bool.not_eq_true, List.all_eq_true]
      intro h
      have := h n hn2
      rw [mI_iff.mpr hn1] at this
      cases this
    obtain ⟨pre, x, post, e0, hp1, hp2⟩ := first_not _ _ hall
    have hx : mI (P1.map (·.1)) x = true := by simpa using hp2
    have e := for_stop (tg := .nm 2) (b := fun env => evSs (callI defs k) L_beside_0 env) (w := []) (fun (n : Int) => D.t (.int n)) (fun env μ' => ∃ (x : Option D), env = [some (.t (webT P1 T1)), some (.t (webT P2 T2)), x, none] ∧ μ' = μ) (.ex ⟨"NoJoin", []⟩ [some (.t (webT P1 T1)), some (.t (webT P2 T2)), some (.t (.int x)), none]) μ (fun _ h => (by cases h)) (fun _ h => (by cases h)) (fun _ h => (by cases h)) (fun _ _ _ => wok_nil _) pre x post (fun y hy env μ' he => by
      obtain ⟨z, rfl, rfl⟩ := he
      refine ⟨_, rfl, _, _, ?_, some (.t (.int y)), rfl, rfl⟩
      have hno : ¬ mI (P1.map (·.1)) y = true := by
        have := hp1 y hy
        simpa using this
      show evSs (callI defs k) L_beside_0 [some (.t (webT P1 T1)), some (.t (webT P2 T2)), some (.t (.int y)), none] μ' = _
      rw [step, if_neg hno]) (fun env μ' he => by
      obtain ⟨z, rfl, rfl⟩ := he
      refine ⟨_, rfl, ?_⟩
      show evSs (callI defs k) L_beside_0 [some (.t (webT P1 T1)), some (.t (webT P2 T2)), some (.t (.int x)), none] μ' = _
      rw [step, if_pos hx]) (env := [some (.t (webT P1 T1)), some (.t (webT P2 T2)), none, none]) (μ := μ) ⟨none, rfl, rfl⟩
    rw [← e0, ← ints_map] at e
    exact ⟨_, e⟩
theorem lookT_j : lookT [("NoJoin", false), ("NoWeb", true)] ("NoWeb" : Str) = some true := by decide +kernel
theorem tryr_ok {F : Orac} {e : E} {c c2 m : Str} {tab : List (Str × Bool)} {env : Envv} {μ μ' : Mem} {d : D} (h : evE F e env μ = .ok d μ') : evS F (.tryr e c tab c2 m) env μ = some (.nx env, μ') := by
  simp only [evS, lift_ap, h, outO_ap, tryR]
theorem tryr_ex {F : Orac} {e : E} {c c2 m : Str} {tab : List (Str × Bool)} {env : Envv} {μ μ' : Mem} {x : Exn} (h : evE F e env μ = .ex x μ') (hl : lookT tab x.cls = some true) : evS F (.tryr e c tab c2 m) env μ = some (.ex ⟨c2, []⟩ env, μ') := by
  simp only [evS, lift_ap, h, tryR, hl]
theorem leave_x (μ : Mem) (t : T) : leave .frz μ (.t t) μ = .ok (.t t) μ := leave_t0 μ t
theorem leave_x_k (μ : Mem) (t : T) : leave .keep μ (.t t) μ = .ok (.t t) μ := by
  have := leave_k μ [] (.t t)
  rwa [List.append_nil] at this
section
variable {k : Nat} {P1 T1 P2 T2 : PL} (h1 : WebOk P1 T1) (h2 : WebOk P2 T2) (μ : Mem)
include h1 h2
theorem c_beside (hk : 6 ≤ k) : (Refu P1 T1 P2 T2 → callI defs k F_beside [.t (webT P1 T1), .t (webT P2 T2)] μ = .ex ⟨"NoJoin", []⟩ μ) ∧ (¬ Refu P1 T1 P2 T2 → callI defs k F_beside [.t (webT P1 T1), .t (webT P2 T2)] μ = .ok (.t (webT (sortP (P1 ++ P2)) (sortP (T1 ++ T2)))) μ) := by
  obtain ⟨k, rfl, hk⟩ := callI_at (defs := defs) (f := 0) hk
  rw [u_beside, b_beside]
  have n1 := h1.np
  have n2 := h2.np
  have t1 := h1.nt
  have t2 := h2.nt
  have c1 := c_look_at_web (k := k) (by omega) h1 μ
  have c2 := c_look_at_web (k := k) (by omega) h2 μ
  have c3 := c_numbers_in (k := k) (by omega) P2 T2 (by omega) μ
  obtain ⟨l1, l2⟩ := comm_loop (k := k) (by omega) L_beside_0 rfl (T1 := T1) (T2 := T2) (P1 := P1) (P2 := P2) (by omega) μ
  have w10 : ∀ μ, ixD (.t (webT P1 T1)) (.t (.int 0)) μ = .ok (.t (plT P1)) μ := fun μ => rfl
  have w11 : ∀ μ, ixD (.t (webT P1 T1)) (.t (.int 1)) μ = .ok (.t (plT T1)) μ := fun μ => rfl
  have w20 : ∀ μ, ixD (.t (webT P2 T2)) (.t (.int 0)) μ = .ok (.t (plT P2)) μ := fun μ => rfl
  have w21 : ∀ μ, ixD (.t (webT P2 T2)) (.t (.int 1)) μ = .ok (.t (plT T2)) μ := fun μ => rfl
  have a0 := fun μ => pl_add P1 P2 μ (by omega)
  have a1 := fun μ => pl_add T1 T2 μ (by omega)
  have li : ∀ ns : List Int, ∀ μ, lstOf μ (.t (iT ns)) = some ((ns.map T.int).map D.t) := fun ns μ => rfl
  have lj := lookT_j
  have x0 := leaveX0 μ ⟨"NoJoin", []⟩
  have s0 : ∀ μ, bfnD true .sorted [.t (plT (P1 ++ P2))] μ = .ok (.t (plT (sortP (P1 ++ P2)))) μ := fun μ => sorted_pl (μ := μ) rfl (by rw [List.length_append]; omega)
  have s1 : ∀ μ, bfnD true .sorted [.t (plT (T1 ++ T2))] μ = .ok (.t (plT (sortP (T1 ++ T2)))) μ := fun μ => sorted_pl (μ := μ) rfl (by rw [List.length_append]; omega)
  have m0 : ∀ μ, mkTup [.t (plT (sortP (P1 ++ P2))), .t (plT (sortP (T1 ++ T2)))] μ = .ok (.t (webT (sortP (P1 ++ P2)) (sortP (T1 ++ T2)))) μ := fun μ => rfl
  by_cases hc : Comm P1 P2
  · obtain ⟨env, e⟩ := l2 hc
    refine ⟨fun _ => ?_, fun hn => absurd (.inl hc) hn⟩
    clear l1 l2 h1 h2 hc
    generalize webT P1 T1 = W1 at *
    generalize webT P2 T2 = W2 at *
    simp only [evSs, evS, evE, evEs, evI, bnd_ap, pur_ap, lift_ap, outO_ap, andThen_ap, List.getElem?_cons_zero, List.getElem?_cons_succ, c1, c2, c3, li, wL_t, e, fin, x0]
  · obtain ⟨x, e⟩ := l1 hc
    have hex : ¬ WebOk (sortP (P1 ++ P2)) (sortP (T1 ++ T2)) → ∃ s u, callI defs k F_look_at_web [.t (webT (sortP (P1 ++ P2)) (sortP (T1 ++ T2)))] μ = .ex (noW s u) μ := fun hn => by
      obtain ⟨r, hr⟩ := due_all (t := webT (sortP (P1 ++ P2)) (sortP (T1 ++ T2))) ⟨ok_pTs _, ok_pTs _⟩
      cases r with
      | some su =>
        obtain ⟨s, u⟩ := su
        exact ⟨s, u, c_look_no (k := k) (by omega) hr μ⟩
      | none =>
        exfalso
        generalize hw : webT (sortP (P1 ++ P2)) (sortP (T1 ++ T2)) = th at hr
        generalize hz : (none : Option (Str × T)) = z at hr
        cases hr with
        | ok hok =>
          simp only [webT, plT, T.tup.injEq, List.cons.injEq, T.lst.injEq, and_true] at hw
          rw [map_pT_inj hw.1, map_pT_inj hw.2] at hn
          exact hn hok
        | _ => cases hz
    by_cases hw : WebOk (sortP (P1 ++ P2)) (sortP (T1 ++ T2))
    · have c4 := c_look_at_web (k := k) (by omega) hw μ
      refine ⟨fun hr => hr.elim (fun h => absurd h hc) (fun h => absurd hw h), fun _ => ?_⟩
      clear l1 l2 hc hex hw h1 h2
      generalize webT (sortP (P1 ++ P2)) (sortP (T1 ++ T2)) = W3 at *
      generalize webT P1 T1 = W1 at *
      generalize webT P2 T2 = W2 at *
      generalize plT (P1 ++ P2) = Q1 at *
      generalize plT (T1 ++ T2) = Q2 at *
      simp only [evSs, evS, evE, evEs, evI, bnd_ap, pur_ap, lift_ap, outO_ap, andThen_ap, asgT, List.getElem?_cons_zero, List.getElem?_cons_succ, List.set_cons_zero, List.set_cons_succ, c1, c2, c3, li, wL_t, e, w10, w11, w20, w21, a0, a1, s0, s1, m0, c4, tryR, lj, fin, leave_t0]
    · obtain ⟨s, u, c4⟩ := hex hw
      unfold noW at c4
      refine ⟨fun _ => ?_, fun hn => absurd (.inr hw) hn⟩
      clear l1 l2 hc hex hw h1 h2
      generalize webT (sortP (P1 ++ P2)) (sortP (T1 ++ T2)) = W3 at *
      generalize webT P1 T1 = W1 at *
      generalize webT P2 T2 = W2 at *
      generalize plT (P1 ++ P2) = Q1 at *
      generalize plT (T1 ++ T2) = Q2 at *
      simp only [evSs, evS, evE, evEs, evI, bnd_ap, pur_ap, lift_ap, outO_ap, andThen_ap, asgT, List.getElem?_cons_zero, List.getElem?_cons_succ, List.set_cons_zero, List.set_cons_succ, c1, c2, c3, li, wL_t, e, w10, w11, w20, w21, a0, a1, s0, s1, m0, c4, tryR, lj, fin, x0]
theorem c_beside_k (hk : 6 ≤ k) : (Refu P1 T1 P2 T2 → callI defs k F_beside_k [.t (webT P1 T1), .t (webT P2 T2)] μ = .ex ⟨"NoJoin", []⟩ μ) ∧ (¬ Refu P1 T1 P2 T2 → callI defs k F_beside_k [.t (webT P1 T1), .t (webT P2 T2)] μ = .ok (.tp [.ref μ.length, .ref (μ.length + 1)]) (μ ++ [.lst (((sortP (P1 ++ P2)).map pT).map D.t), .lst (((sortP (T1 ++ T2)).map pT).map D.t)])) := by
  obtain ⟨k, rfl, hk⟩ := callI_at (defs := defs) (f := 0) hk
  rw [u_beside_k, b_beside_k]
  have n1 := h1.np
  have n2 := h2.np
  have t1 := h1.nt
  have t2 := h2.nt
  have c1 := c_look_at_web (k := k) (by omega) h1 μ
  have c2 := c_look_at_web (k := k) (by omega) h2 μ
  have c3 := c_numbers_in (k := k) (by omega) P2 T2 (by omega) μ
  obtain ⟨l1, l2⟩ := comm_loop (k := k) (by omega) L_beside_k_0 rfl (T1 := T1) (T2 := T2) (P1 := P1) (P2 := P2) (by omega) μ
  have w10 : ∀ μ, ixD (.t (webT P1 T1)) (.t (.int 0)) μ = .ok (.t (plT P1)) μ := fun μ => rfl
  have w11 : ∀ μ, ixD (.t (webT P1 T1)) (.t (.int 1)) μ = .ok (.t (plT T1)) μ := fun μ => rfl
  have w20 : ∀ μ, ixD (.t (webT P2 T2)) (.t (.int 0)) μ = .ok (.t (plT P2)) μ := fun μ => rfl
  have w21 : ∀ μ, ixD (.t (webT P2 T2)) (.t (.int 1)) μ = .ok (.t (plT T2)) μ := fun μ => rfl
  have a0 := fun μ => pl_add P1 P2 μ (by omega)
  have a1 := fun μ => pl_add T1 T2 μ (by omega)
  have li : ∀ ns : List Int, ∀ μ, lstOf μ (.t (iT ns)) = some ((ns.map T.int).map D.t) := fun ns μ => rfl
  have lj := lookT_j
  obtain ⟨μ1, hμ1⟩ : ∃ μ1, μ ++ [.lst (((sortP (P1 ++ P2)).map pT).map D.t)] = μ1 := ⟨_, rfl⟩
  obtain ⟨μ2, hμ2⟩ : ∃ μ2, μ ++ [.lst (((sortP (P1 ++ P2)).map pT).map D.t), .lst (((sortP (T1 ++ T2)).map pT).map D.t)] = μ2 := ⟨_, rfl⟩
  have hl1 : μ1.length = μ.length + 1 := by rw [← hμ1]; simp
  have s0 : bfnD false .sorted [.t (plT (P1 ++ P2))] μ = .ok (.ref μ.length) μ1 := by rw [sorted_plc (ts := P1 ++ P2) rfl (by rw [List.length_append]; omega), hμ1]
  have s1 : bfnD false .sorted [.t (plT (T1 ++ T2))] μ1 = .ok (.ref (μ.length + 1)) μ2 := by
    rw [sorted_plc (ts := T1 ++ T2) rfl (by rw [List.length_append]; omega), hl1, ← hμ2, ← hμ1]
    simp
  have m0 : ∀ μ', mkTup [.ref μ.length, .ref (μ.length + 1)] μ' = .ok (.tp [.ref μ.length, .ref (μ.length + 1)]) μ' := fun μ' => rfl
  have x0 := leaveX0 μ ⟨"NoJoin", []⟩
  have x1 : leaveX μ ⟨"NoJoin", []⟩ μ2 = .ex ⟨"NoJoin", []⟩ μ := by rw [← hμ2]; exact leave_tx μ _ _
  have lk := leave_k μ [.lst (((sortP (P1 ++ P2)).map pT).map D.t), .lst (((sortP (T1 ++ T2)).map pT).map D.t)] (.tp [.ref μ.length, .ref (μ.length + 1)])
  rw [hμ2] at lk
  obtain ⟨ck1, ck2⟩ := c_look_d (k := k) (by omega) (ps := sortP (P1 ++ P2)) (ts := sortP (T1 ++ T2)) (d1 := .ref μ.length) (d2 := .ref (μ.length + 1)) (μ := μ2) (.cel (by rw [← hμ2, getA0]; rfl)) (.cel (by rw [← hμ2, getA]; rfl))
  by_cases hc : Comm P1 P2
  · obtain ⟨env, e⟩ := l2 hc
    refine ⟨fun _ => ?_, fun hn => absurd (.inl hc) hn⟩
    clear l1 l2 h1 h2 hc ck1 ck2
    generalize webT P1 T1 = W1 at *
    generalize webT P2 T2 = W2 at *
    simp only [evSs, evS, evE, evEs, evI, bnd_ap, pur_ap, lift_ap, outO_ap, andThen_ap, List.getElem?_cons_zero, List.getElem?_cons_succ, c1, c2, c3, li, wL_t, e, fin, x0]
  · obtain ⟨x, e⟩ := l1 hc
    by_cases hw : WebOk (sortP (P1 ++ P2)) (sortP (T1 ++ T2))
    · have c4 := ck1 hw
      refine ⟨fun hr => hr.elim (fun h => absurd h hc) (fun h => absurd hw h), fun _ => ?_⟩
      clear l1 l2 hc ck1 ck2 hw h1 h2
      generalize webT P1 T1 = W1 at *
      generalize webT P2 T2 = W2 at *
      generalize plT (P1 ++ P2) = Q1 at *
      generalize plT (T1 ++ T2) = Q2 at *
      simp only [evSs, evS, evE, evEs, evI, bnd_ap, pur_ap, lift_ap, outO_ap, andThen_ap, asgT, List.getElem?_cons_zero, List.getElem?_cons_succ, List.set_cons_zero, List.set_cons_succ, c1, c2, c3, li, wL_t, e, w10, w11, w20, w21, a0, a1, s0, s1, m0, c4, tryR, lj, fin, lk]
      rw [hμ2]
    · obtain ⟨s, u, c4⟩ := ck2 hw
      unfold noW at c4
      refine ⟨fun _ => ?_, fun hn => absurd (.inr hw) hn⟩
      clear l1 l2 hc ck1 ck2 hw h1 h2
      generalize webT P1 T1 = W1 at *
      generalize webT P2 T2 = W2 at *
      generalize plT (P1 ++ P2) = Q1 at *
      generalize plT (T1 ++ T2) = Q2 at *
      simp only [evSs, evS, evE, evEs, evI, bnd_ap, pur_ap, lift_ap, outO_ap, andThen_ap, asgT, List.getElem?_cons_zero, List.getElem?_cons_succ, List.set_cons_zero, List.set_cons_succ, c1, c2, c3, li, wL_t, e, w10, w11, w20, w21, a0, a1, s0, s1, m0, c4, tryR, lj, fin, x1]
theorem c_w_met (hk : 7 ≤ k) : (Refu P1 T1 P2 T2 → callI defs k F_w_met [.t (webT P1 T1), .t (webT P2 T2)] μ = .ok (.t (.lst [.bl true, .bl false])) μ) ∧ (¬ Refu P1 T1 P2 T2 → callI defs k F_w_met [.t (webT P1 T1), .t (webT P2 T2)] μ = .ok (.t (webT (sortP (P1 ++ P2)) (sortP (T1 ++ T2)))) μ) := by
  obtain ⟨k, rfl, hk⟩ := callI_at (defs := defs) (f := 0) hk
  rw [u_w_met, b_w_met]
  obtain ⟨c1, c2⟩ := c_beside (k := k) h1 h2 μ (by omega)
  have l1 : lookT [("NoJoin", true), ("NoWeb", false)] ("NoJoin" : Str) = some true := by decide +kernel
  have l2 : lookT [("NoJoin", true), ("NoWeb", true)] ("NoJoin" : Str) = some true := by decide +kernel
  have l3 : lookT [("NoJoin", false)] ("NoJoin" : Str) = some false := by decide +kernel
  have m1 : ∀ μ, mkL true [D.t (.bl true), .t (.bl false)] μ = .ok (.t (.lst [.bl true, .bl false])) μ := fun μ => rfl
  generalize webT P1 T1 = W1 at *
  generalize webT P2 T2 = W2 at *
  refine ⟨fun hr => ?_, fun hr => ?_⟩
  · have e := c1 hr
    have e2 : evSs (callI defs k) (.cons (.asg (.nm 2) (.call F_beside (.cons (.var 0) (.cons (.var 1) .nil)))) .nil) [some (.t W1), some (.t W2), none, none] μ = some (.ex ⟨"NoJoin", []⟩ [some (.t W1), some (.t W2), none, none], μ) := by
      simp only [evSs, evS, evE, evEs, andThen_ap, lift_ap, bnd_ap, pur_ap, List.getElem?_cons_zero, List.getElem?_cons_succ, e]
    have lk := leave_x μ (.lst [.bl true, .bl false])
    clear c1 c2 hr h1 h2
    rw [evSs, andThen_ap, try_ap, e2]
    simp only [tryO, l1, okI, List.length_cons, List.length_nil, Nat.reduceAdd, Nat.reduceLT, decide_true, if_true, unbE, List.set_cons_succ, List.set_cons_zero, evHSs, evHS, liftH, evH, evHs, bnd_ap, pur_ap, l2, l3, m1, toB_ap, andThen_ap, outO_ap, unbO, fin, lk]
  · have e := c2 hr
    have e2 : evSs (callI defs k) (.cons (.asg (.nm 2) (.call F_beside (.cons (.var 0) (.cons (.var 1) .nil)))) .nil) [some (.t W1), some (.t W2), none, none] μ = some (.nx [some (.t W1), some (.t W2), some (.t (webT (sortP (P1 ++ P2)) (sortP (T1 ++ T2)))), none], μ) := by
      simp only [evSs, evS, evE, evEs, andThen_ap, lift_ap, bnd_ap, pur_ap, List.getElem?_cons_zero, List.getElem?_cons_succ, e, asgT, List.set_cons_zero, List.set_cons_succ, outO_ap]
    have lk := leave_t0 μ (webT (sortP (P1 ++ P2)) (sortP (T1 ++ T2)))
    clear c1 c2 hr h1 h2
    rw [evSs, andThen_ap, try_ap, e2]
    simp only [tryO, andThen_ap, outO_ap, unbO, evSs, evS, evE, lift_ap, List.getElem?_cons_zero, List.getElem?_cons_succ, fin, lk]
theorem c_w_met_k (hk : 7 ≤ k) : (Refu P1 T1 P2 T2 → callI defs k F_w_met_k [.t (webT P1 T1), .t (webT P2 T2)] μ = .ok (.t (.lst [.bl true, .bl false])) μ) ∧ (¬ Refu P1 T1 P2 T2 → callI defs k F_w_met_k [.t (webT P1 T1), .t (webT P2 T2)] μ = .ok (.tp [.ref μ.length, .ref (μ.length + 1)]) (μ ++ [.lst (((sortP (P1 ++ P2)).map pT).map D.t), .lst (((sortP (T1 ++ T2)).map pT).map D.t)])) := by
  obtain ⟨k, rfl, hk⟩ := callI_at (defs := defs) (f := 0) hk
  rw [u_w_met_k, b_w_met_k]
  obtain ⟨c1, c2⟩ := c_beside_k (k := k) h1 h2 μ (by omega)
  have l1 : lookT [("NoJoin", true), ("NoWeb", false)] ("NoJoin" : Str) = some true := by decide +kernel
  have l2 : lookT [("NoJoin", true), ("NoWeb", true)] ("NoJoin" : Str) = some true := by decide +kernel
  have l3 : lookT [("NoJoin", false)] ("NoJoin" : Str) = some false := by decide +kernel
  have m1 : ∀ μ, mkL true [D.t (.bl true), .t (.bl false)] μ = .ok (.t (.lst [.bl true, .bl false])) μ := fun μ => rfl
  generalize webT P1 T1 = W1 at *
  generalize webT P2 T2 = W2 at *
  refine ⟨fun hr => ?_, fun hr => ?_⟩
  · have e := c1 hr
    have e2 : evSs (callI defs k) (.cons (.asg (.nm 2) (.call F_beside_k (.cons (.var 0) (.cons (.var 1) .nil)))) .nil) [some (.t W1), some (.t W2), none, none] μ = some (.ex ⟨"NoJoin", []⟩ [some (.t W1), some (.t W2), none, none], μ) := by
      simp only [evSs, evS, evE, evEs, andThen_ap, lift_ap, bnd_ap, pur_ap, List.getElem?_cons_zero, List.getElem?_cons_succ, e]
    have lk := leave_x_k μ (.lst [.bl true, .bl false])
    clear c1 c2 hr h1 h2
    rw [evSs, andThen_ap, try_ap, e2]
    simp only [tryO, l1, okI, List.length_cons, List.length_nil, Nat.reduceAdd, Nat.reduceLT, decide_true, if_true, unbE, List.set_cons_succ, List.set_cons_zero, evHSs, evHS, liftH, evH, evHs, bnd_ap, pur_ap, l2, l3, m1, toB_ap, andThen_ap, outO_ap, unbO, fin, lk]
  · have e := c2 hr
    have e2 : evSs (callI defs k) (.cons (.asg (.nm 2) (.call F_beside_k (.cons (.var 0) (.cons (.var 1) .nil)))) .nil) [some (.t W1), some (.t W2), none, none] μ = some (.nx [some (.t W1), some (.t W2), some (.tp [.ref μ.length, .ref (μ.length + 1)]), none], μ ++ [.lst (((sortP (P1 ++ P2)).map pT).map D.t), .lst (((sortP (T1 ++ T2)).map pT).map D.t)]) := by
      simp only [evSs, evS, evE, evEs, andThen_ap, lift_ap, bnd_ap, pur_ap, List.getElem?_cons_zero, List.getElem?_cons_succ, e, asgT, List.set_cons_zero, List.set_cons_succ, outO_ap]
    have lk := leave_k μ [.lst (((sortP (P1 ++ P2)).map pT).map D.t), .lst (((sortP (T1 ++ T2)).map pT).map D.t)] (.tp [.ref μ.length, .ref (μ.length + 1)])
    clear c1 c2 hr h1 h2
    rw [evSs, andThen_ap, try_ap, e2]
    simp only [tryO, andThen_ap, outO_ap, unbO, evSs, evS, evE, lift_ap, List.getElem?_cons_zero, List.getElem?_cons_succ, fin, lk]
end
/-! ### when two webs together are one -/
theorem PlOk.nodup : ∀ {ps : PL} {last paid : Int}, PlOk last paid ps → (ps.map (·.1)).Nodup
  | [], _, _, _ => by simp
  | q :: r, last, paid, h => by
    rw [List.map_cons, List.nodup_cons]
    exact ⟨fun hm => by obtain ⟨p, hp, e⟩ := List.mem_map.mp hm; have := PlOk.gt h.2.2.2.2 p hp; omega, PlOk.nodup h.2.2.2.2⟩
theorem lt2_of_lex {p q : Int × Int} (h : lexP q p = false) (hne : p ≠ q) : lt2 p q := by
  have h5 := lexP_no.mp h
  have h7 : ¬ (p.1 = q.1 ∧ p.2 = q.2) := fun e => hne (Prod.ext e.1 e.2)
  unfold lt2
  omega
theorem sumN_perm {a b : PL} (h : a.Perm b) : sumN a = sumN b := by
  unfold sumN
  induction h with
  | nil => rfl
  | cons x _ ih => simp only [List.map_cons, List.sum_cons, ih]
  | swap x y l =>
    simp only [List.map_cons, List.sum_cons]
    omega
  | trans _ _ ih1 ih2 => exact ih1.trans ih2
theorem sumN_app (a b : PL) : sumN (a ++ b) = sumN a + sumN b := by simp [sumN]
theorem PlOk.sum : ∀ {ps : PL} {last paid : Int}, PlOk last paid ps → paid ≤ 1000000000000 → paid + sumN ps ≤ 1000000000000
  | [], _, paid, _, h => by simpa [sumN] using h
  | p :: r, last, paid, h, _ => by
    have := PlOk.sum h.2.2.2.2 (by have := h.2.2.2.1; omega)
    simp only [sumN, List.map_cons, List.sum_cons] at this ⊢
    omega
theorem PlOk.all : ∀ {ps : PL} {last paid : Int}, PlOk last paid ps → ∀ p ∈ ps, last < p.1 ∧ p.1 ≤ 999 ∧ 1 ≤ p.2
  | q :: r, last, paid, h, p, hp => by
    rcases List.mem_cons.mp hp with rfl | hp
    · exact ⟨h.1, h.2.1, h.2.2.1⟩
    · have := PlOk.all h.2.2.2.2 p hp
      exact ⟨Int.lt_trans h.1 this.1, this.2⟩
theorem PlOk.of_sorted : ∀ {ps : PL} {last paid : Int}, ps.Pairwise (fun a b => a.1 < b.1) → (∀ p ∈ ps, last < p.1 ∧ p.1 ≤ 999 ∧ 1 ≤ p.2) → paid + sumN ps ≤ 1000000000000 → PlOk last paid ps
  | [], _, _, _, _, _ => trivial
  | p :: r, last, paid, h, ha, hs => by
    rw [List.pairwise_cons] at h
    have hp := ha p (by simp)
    have hpos : ∀ l : PL, (∀ q ∈ l, 1 ≤ q.2) → 0 ≤ sumN l := fun l => by
      induction l with
      | nil => intro _; simp [sumN]
      | cons q l ih =>
        intro hl
        have h1 := ih fun x hx => hl x (by simp [hx])
        have h2 := hl q (by simp)
        simp only [sumN, List.map_cons, List.sum_cons] at h1 ⊢
        omega
    have hr := hpos r fun q hq => (ha q (by simp [hq])).2.2
    have e : sumN (p :: r) = p.2 + sumN r := by simp [sumN]
    rw [e] at hs
    exact ⟨hp.1, hp.2.1, hp.2.2, by omega, PlOk.of_sorted h.2 (fun q hq => ⟨h.1 q hq, (ha q (by simp [hq])).2⟩) (by omega)⟩
theorem TiOk.all {ks : List Int} : ∀ {ts : PL} {b : Int × Int}, TiOk ks b ts → ∀ t ∈ ts, lt2 b t ∧ t.1 < t.2 ∧ t.1 ∈ ks ∧ t.2 ∈ ks
  | u :: r, b, h, t, ht => by
    rcases List.mem_cons.mp ht with rfl | ht
    · exact ⟨h.2.2.2.1, h.1, h.2.1, h.2.2.1⟩
    · have := TiOk.all h.2.2.2.2 t ht
      refine ⟨?_, this.2⟩
      have h1 := h.2.2.2.1
      have h2 := this.1
      unfold lt2 at *
      omega
theorem TiOk.nodup {ks : List Int} : ∀ {ts : PL} {b : Int × Int}, TiOk ks b ts → ts.Nodup
  | [], _, _ => .nil
  | u :: r, b, h => by
    rw [List.nodup_cons]
    refine ⟨fun hm => ?_, TiOk.nodup h.2.2.2.2⟩
    have := (TiOk.all h.2.2.2.2 u hm).1
    unfold lt2 at this
    omega
/-- the law's own words: too many, too dear, or a place in both -/
def BadL (P1 T1 P2 T2 : PL) : Prop := Comm P1 P2 ∨ 40 < (P1 ++ P2).length ∨ 120 < (T1 ++ T2).length ∨ 1000000000000 < sumN (P1 ++ P2)
theorem refu_iff {P1 T1 P2 T2 : PL} (h1 : WebOk P1 T1) (h2 : WebOk P2 T2) : Refu P1 T1 P2 T2 ↔ BadL P1 T1 P2 T2 := by
  constructor
  · rintro (h | h)
    · exact .inl h
    · by_cases hc : Comm P1 P2
      · exact .inl hc
      · refine .inr ?_
        by_cases h40 : 40 < (P1 ++ P2).length
        · exact .inl h40
        · by_cases h120 : 120 < (T1 ++ T2).length
          · exact .inr (.inl h120)
          · by_cases hs : 1000000000000 < sumN (P1 ++ P2)
            · exact .inr (.inr hs)
            · exfalso
              apply h
              have hnd : ((P1 ++ P2).map (·.1)).Nodup := by
                rw [List.map_append, List.nodup_append]
                exact ⟨h1.pl.nodup, h2.pl.nodup, fun a ha b hb e => hc ⟨b, hb, e ▸ ha⟩⟩
              have hall : ∀ p ∈ sortP (P1 ++ P2), -1 < p.1 ∧ p.1 ≤ 999 ∧ 1 ≤ p.2 := fun p hp => by
                rcases List.mem_append.mp ((sortP_perm _).subset hp) with hp | hp
                · exact PlOk.all h1.pl p hp
                · exact PlOk.all h2.pl p hp
              have hnd2 : ((sortP (P1 ++ P2)).map (·.1)).Nodup := ((sortP_perm (P1 ++ P2)).map (·.1)).nodup_iff.mpr hnd
              have hlt : (sortP (P1 ++ P2)).Pairwise (fun a b => a.1 < b.1) := by
                have h3 := sortP_sorted (P1 ++ P2)
                rw [List.Nodup, List.pairwise_map] at hnd2
                refine (List.pairwise_and_iff.mpr ⟨h3, hnd2⟩).imp fun {a b} hab => ?_
                have := lexP_no.mp hab.1
                have := hab.2
                omega
              have hks : ∀ n, n ∈ (sortP (P1 ++ P2)).map (·.1) ↔ n ∈ P1.map (·.1) ∨ n ∈ P2.map (·.1) := fun n => by
                rw [((sortP_perm (P1 ++ P2)).map (·.1)).mem_iff, List.map_append, List.mem_append]
              have htn : (T1 ++ T2).Nodup := by
                rw [List.nodup_append]
                refine ⟨h1.ti.nodup, h2.ti.nodup, fun a ha b hb e => ?_⟩
                have ha1 := (TiOk.all h1.ti a ha).2.2.1
                have hb1 := (TiOk.all h2.ti b hb).2.2.1
                exact hc ⟨b.1, hb1, e ▸ ha1⟩
              refine ⟨PlOk.of_sorted hlt hall (by rw [sumN_perm (sortP_perm _)]; omega), TiOk.of_sorted (sortP_sorted _) ((sortP_perm _).nodup_iff.mpr htn) (fun t ht => ?_) (fun t ht => ?_), by rw [sortP_len]; omega, by rw [sortP_len]; omega⟩
              · rcases List.mem_append.mp ((sortP_perm _).subset ht) with ht | ht
                · have := (TiOk.all h1.ti t ht).2
                  exact ⟨this.1, (hks _).mpr (.inl this.2.1), (hks _).mpr (.inl this.2.2)⟩
                · have := (TiOk.all h2.ti t ht).2
                  exact ⟨this.1, (hks _).mpr (.inr this.2.1), (hks _).mpr (.inr this.2.2)⟩
              · rcases List.mem_append.mp ((sortP_perm _).subset ht) with ht | ht
                · exact (TiOk.all h1.ti t ht).1
                · exact (TiOk.all h2.ti t ht).1
  · rintro (h | h | h | h)
    · exact .inl h
    · exact .inr fun hw => by have := hw.np; rw [sortP_len] at this; omega
    · exact .inr fun hw => by have := hw.nt; rw [sortP_len] at this; omega
    · exact .inr fun hw => by
        have := hw.pl.sum (by omega)
        rw [sumN_perm (sortP_perm _)] at this
        omega
theorem sorted_eq : ∀ {a b : PL}, a.Perm b → a.Pairwise (fun x y => lexP y x = false) → b.Pairwise (fun x y => lexP y x = false) → a = b
  | [], b, h, _, _ => (List.nil_perm.mp h).symm
  | x :: a, [], h, _, _ => (List.perm_nil.mp h)
  | x :: a, y :: b, h, ha, hb => by
    rw [List.pairwise_cons] at ha hb
    have hxy : x = y := by
      have h1 : x ∈ y :: b := h.subset (by simp)
      have h2 : y ∈ x :: a := h.symm.subset (by simp)
      rcases List.mem_cons.mp h1 with e | h1
      · exact e
      · rcases List.mem_cons.mp h2 with e | h2
        · exact e.symm
        · have e1 := lexP_no.mp (ha.1 y h2)
          have e2 := lexP_no.mp (hb.1 x h1)
          exact Prod.ext (by omega) (by omega)
    subst hxy
    rw [sorted_eq ((List.perm_cons x).mp h) ha.2 hb.2]
theorem sortP_comm (a b : PL) : sortP (a ++ b) = sortP (b ++ a) :=
  sorted_eq (((sortP_perm _).trans List.perm_append_comm).trans (sortP_perm _).symm) (sortP_sorted _) (sortP_sorted _)
theorem badL_comm (P1 T1 P2 T2 : PL) : BadL P1 T1 P2 T2 ↔ BadL P2 T2 P1 T1 := by
  have hc : ∀ a b : PL, Comm a b → Comm b a := fun a b ⟨n, h1, h2⟩ => ⟨n, h2, h1⟩
  have h : ∀ P1 T1 P2 T2 : PL, BadL P1 T1 P2 T2 → BadL P2 T2 P1 T1 := by
    rintro P1 T1 P2 T2 (h | h | h | h)
    · exact .inl (hc _ _ h)
    · exact .inr (.inl (by rw [List.length_append] at h ⊢; omega))
    · exact .inr (.inr (.inl (by rw [List.length_append] at h ⊢; omega)))
    · exact .inr (.inr (.inr (by rw [sumN_app] at h ⊢; omega)))
  exact ⟨h _ _ _ _, h _ _ _ _⟩
open Classical in
noncomputable def dueV (P1 T1 P2 T2 : PL) : T := if BadL P1 T1 P2 T2 then .lst [.bl true, .bl false] else webT (sortP (P1 ++ P2)) (sortP (T1 ++ T2))
theorem dueV_comm (P1 T1 P2 T2 : PL) : dueV P1 T1 P2 T2 = dueV P2 T2 P1 T1 := by
  unfold dueV
  by_cases h : BadL P1 T1 P2 T2
  · rw [if_pos h, if_pos ((badL_comm _ _ _ _).mp h)]
  · rw [if_neg h, if_neg fun h2 => h ((badL_comm _ _ _ _).mpr h2), sortP_comm P1 P2, sortP_comm T1 T2]
theorem met_due {k : Nat} (hk : 7 ≤ k) {P1 T1 P2 T2 : PL} (h1 : WebOk P1 T1) (h2 : WebOk P2 T2) (μ : Mem) : callI defs k F_w_met [.t (webT P1 T1), .t (webT P2 T2)] μ = .ok (.t (dueV P1 T1 P2 T2)) μ := by
  obtain ⟨c1, c2⟩ := c_w_met h1 h2 μ hk
  unfold dueV
  by_cases h : BadL P1 T1 P2 T2
  · rw [if_pos h]
    exact c1 ((refu_iff h1 h2).mpr h)
  · rw [if_neg h]
    exact c2 fun hr => h ((refu_iff h1 h2).mp hr)
/-! ### the law's own words: what is due -/
theorem LT.cases {μ : Mem} {d : D} {L : List T} (h : LT μ d L) : d = .t (.lst L) ∨ ∃ c, d = .ref c ∧ μ[c]? = some (.lst (L.map D.t)) := by
  cases d with
  | t x =>
    have h1 := h.lst
    cases x with
    | lst ts =>
      have : (some (ts.map D.t)) = some (L.map D.t) := h1
      have := Option.some.inj this
      rw [((List.map_inj_right (fun a b e => by cases e; rfl)).mp this).symm]
      exact .inl rfl
    | _ => have h3 := h.ty; first | (simp [lstOf] at h1; done) | (simp [tyOf] at h3; done)
  | ref c =>
    have h1 := h.lst
    rw [lO_ref] at h1
    split at h1
    · rename_i ds e
      cases h1
      exact .inr ⟨c, rfl, e⟩
    · cases h1
  | tp ds =>
    have h1 := h.lst
    cases h1
theorem eq_nil {μ : Mem} {d : D} {L : List T} {ds : List PyData} (h : LT μ d L) (h1 : toPs L = some ds) (h2 : PyData.canLayAll0 ds = true) (h3 : PyData.depthAll ds ≤ 5) : cmpD .eq d (.t (.lst [])) μ = .ok (.t (.bl L.isEmpty)) μ := by
  have h4 : SeqAt.shaped (.list ds) = true := by
    have he : (PyData.list ds).depth = 1 + PyData.depthAll ds := by simp only [PyData.depth]; try omega
    rw [SeqAt.shaped, he]
    simp only [PyData.canLay0, h2, Bool.true_and, decide_eq_true_eq]
    omega
  have h5 : SeqAt.shaped (.list []) = true := by decide
  have h6 : deepD μ d = some (.list ds) := by
    rcases h.cases with rfl | ⟨c, rfl, hc⟩
    · simp only [deepD, toP, h1, Option.map_some]
    · simp only [deepD, hc, toTs_of, Option.bind_some, h1, Option.map_some]
  have h7 : deepD μ (.t (.lst [])) = some (.list []) := rfl
  have h8 : PyData.eqv (.list ds) (.list []) = L.isEmpty := by
    cases L with
    | nil => simp only [toPs, Option.some.injEq] at h1; rw [← h1]; simp [PyData.eqv, PyData.eqvAll]
    | cons t r =>
      cases ds with
      | nil =>
        simp only [toPs] at h1
        split at h1 <;> cases h1
      | cons _ _ => simp [PyData.eqv, PyData.eqvAll]
  have h9 : eqP μ d (.t (.lst [])) = some L.isEmpty := by
    simp only [eqP, h6, h7, h4, h5, Bool.and_self, if_true, h8]
  have h10 : scalD d (.t (.lst [])) = none := by
    rcases h.cases with rfl | ⟨c, rfl, hc⟩ <;> rfl
  simp only [cmpD, h10, h9]
theorem toPs_ints : ∀ l : List Int, toPs (l.map T.int) = some (l.map PyData.int)
  | [] => rfl
  | n :: l => by simp only [List.map_cons, toPs, toP, toPs_ints l]
theorem lay_ints : ∀ l : List Int, PyData.canLayAll0 (l.map PyData.int) = true
  | [] => rfl
  | n :: l => by simp only [List.map_cons, PyData.canLayAll0, PyData.canLay0, lay_ints l, Bool.and_self]
theorem dep_ints : ∀ l : List Int, PyData.depthAll (l.map PyData.int) ≤ 1
  | [] => by simp [PyData.depthAll]
  | n :: l => by
    have e : (PyData.int n).depth = 0 := rfl
    have := dep_ints l
    simp only [List.map_cons, PyData.depthAll, e]
    omega
theorem dep_pTs : ∀ l : PL, PyData.depthAll (l.map ptD) ≤ 3
  | [] => by simp [PyData.depthAll]
  | n :: l => by
    have e : (ptD n).depth ≤ 2 := by simp [ptD, PyData.depth, PyData.depthAll]
    have := dep_pTs l
    simp only [List.map_cons, PyData.depthAll]
    omega
theorem ints_isnil (ns : List Int) (μ : Mem) : cmpD .eq (.t (iT ns)) (.t (.lst [])) μ = .ok (.t (.bl ns.isEmpty)) μ := by
  have := eq_nil (LT.frz μ (ns.map T.int)) (toPs_ints ns) (lay_ints ns) (by have := dep_ints ns; omega)
  rw [List.isEmpty_map] at this
  exact this
theorem ints_nenil (ns : List Int) (μ : Mem) : cmpD .ne (.t (iT ns)) (.t (.lst [])) μ = .ok (.t (.bl (!ns.isEmpty))) μ := by
  have := ints_isnil ns μ
  have h10 : scalD (.t (iT ns)) (.t (.lst [])) = none := rfl
  simp only [cmpD, h10] at this ⊢
  cases h : eqP μ (.t (iT ns)) (.t (.lst [])) with
  | none => rw [h] at this; cases this
  | some b =>
    rw [h] at this
    simp only [R.ok.injEq, D.t.injEq, T.bl.injEq, and_true] at this
    rw [this]
theorem pairs_isnil {μ : Mem} {d : D} {ps : PL} (h : LT μ d (ps.map pT)) : cmpD .eq d (.t (.lst [])) μ = .ok (.t (.bl ps.isEmpty)) μ := by
  have := eq_nil h (toPs_pT ps) (lay_pTs ps) (by have := dep_pTs ps; omega)
  rwa [List.isEmpty_map] at this
theorem lt_add {μ : Mem} {d e : D} {a b : PL} (h1 : LT μ d (a.map pT)) (h2 : LT μ e (b.map pT)) (h : a.length + b.length ≤ 16777216) : binD .add d e μ = .ok (.t (plT (a ++ b))) μ := by
  have n : ∀ i j : Int, ¬ (d = .t (.int i) ∧ e = .t (.int j)) := fun i j ⟨e1, _⟩ => by
    have := h1.ty
    rw [e1] at this
    cases this
  have m : binD .add d e μ = mkL true (((a.map pT).map D.t) ++ ((b.map pT).map D.t)) μ := by
    have l1 := h1.lsn
    have l2 := h2.lsn
    rcases h1.cases with rfl | ⟨c, rfl, hc⟩ <;> rcases h2.cases with rfl | ⟨c', rfl, hc'⟩ <;> simp only [binD, l1, l2]
  rw [m, ← List.map_append, ← List.map_append, mkL_t]
  · rfl
  · rw [sizeLine_eq, List.length_map, List.length_append]; exact h
theorem c_w_due {k : Nat} (hk : 1 ≤ k) {d1 d2 : D} {P1 T1 P2 T2 : PL} {μ : Mem} (h1 : LT μ d1 (P1.map pT)) (h2 : LT μ d2 (P2.map pT)) (n1 : P1.length ≤ 1000) (n2 : P2.length ≤ 1000) (m1 : T1.length ≤ 1000) (m2 : T2.length ≤ 1000) :
    callI defs k F_w_due [.tp [d1, .t (plT T1)], .tp [d2, .t (plT T2)]] μ = .ok (.t (dueV P1 T1 P2 T2)) μ := by
  obtain ⟨k, rfl, hk⟩ := callI_at (defs := defs) (f := 0) hk
  rw [u_w_due, b_w_due]
  have w10 : ixD (.tp [d1, .t (plT T1)]) (.t (.int 0)) μ = .ok d1 μ := rfl
  have w11 : ixD (.tp [d1, .t (plT T1)]) (.t (.int 1)) μ = .ok (.t (plT T1)) μ := rfl
  have w20 : ixD (.tp [d2, .t (plT T2)]) (.t (.int 0)) μ = .ok d2 μ := rfl
  have w21 : ixD (.tp [d2, .t (plT T2)]) (.t (.int 1)) μ = .ok (.t (plT T2)) μ := rfl
  generalize hW1 : D.tp [d1, .t (plT T1)] = W1 at *
  generalize hW2 : D.tp [d2, .t (plT T2)] = W2 at *
  have l1 := h1.lst
  have l2 := h2.lst
  have ei : ∀ l : PL, iT (l.map (·.1)) = T.lst (l.map fun p => T.int p.1) := fun l => by rw [iT, List.map_map]; rfl
  have ei2 : ∀ l : PL, iT (l.map (·.2)) = T.lst (l.map fun p => T.int p.2) := fun l => by rw [iT, List.map_map]; rfl
  have mp : ∀ ps : PL, (ps.map pT).map D.t = ps.map fun p => D.t (pT p) := fun ps => by rw [List.map_map]; rfl
  have e1 : evE (callI defs k) C_w_due_2 [some W1, some W2, none, none, none, none, none, none, none] μ = .ok (.t (iT (P1.map (·.1)))) μ := by
    have := ev_map (F := callI defs k) (own := [("_law_place", 3), ("_law_price", 4)]) (tg := .tp [.nm 3, .nm 4]) (it := .val (.ix (.var 0) (.cst (.int 0)))) (e := .var 3) (env := [some W1, some W2, none, none, none, none, none, none, none]) (μ := μ) (w := watchL d1 ((P1.map pT).map D.t)) (fun p : Int × Int => D.t (pT p)) P1 (fun p => T.int p.1) (by
      simp only [evI, evE, bnd_ap, pur_ap, List.getElem?_cons_zero, w10, l1, mp]) (by rw [sizeLine_eq]; omega) h1.wat (fun x hx => ⟨_, rfl, rfl⟩)
    rw [← ei] at this
    exact this
  have e2 : evE (callI defs k) C_w_due_1 [some W1, some W2, some (.t (iT (P1.map (·.1)))), none, none, none, none, none, none] μ = .ok (.t (iT ((P2.filter (fun p => mI (P1.map (·.1)) p.1)).map (·.1)))) μ := by
    have := ev_comp (F := callI defs k) (own := [("_law_place", 3), ("_law_price", 4)]) (tg := .tp [.nm 3, .nm 4]) (it := .val (.ix (.var 1) (.cst (.int 0)))) (ifs := .cons (.cmp .mem (.var 3) (.var 2)) .nil) (e := .var 3) (env := [some W1, some W2, some (.t (iT (P1.map (·.1)))), none, none, none, none, none, none]) (μ := μ) (w := watchL d2 ((P2.map pT).map D.t)) (fun p : Int × Int => D.t (pT p)) P2 (fun p => mI (P1.map (·.1)) p.1) (fun p => T.int p.1) (by
      simp only [evI, evE, bnd_ap, pur_ap, List.getElem?_cons_zero, List.getElem?_cons_succ, w20, l2, mp]) (by rw [sizeLine_eq]; omega) h2.wat (fun x hx => ⟨[some W1, some W2, some (.t (iT (P1.map (·.1)))), some (.t (.int x.1)), some (.t (.int x.2)), none, none, none, none], rfl, by
        have hm := mem_mI (P1.map (·.1)) x.1 μ
        simp only [evC, evE, bnd_ap, pur_ap, List.getElem?_cons_zero, List.getElem?_cons_succ, cmpD, hm, toB_ap], fun _ => rfl⟩)
    rw [← ei] at this
    exact this
  have a1 := lt_add h1 h2 (by omega)
  have a2 := lt_add (LT.frz μ (T1.map pT)) (LT.frz μ (T2.map pT)) (by omega)
  have s1 := sorted_pl (μ := μ) (d := .t (plT (P1 ++ P2))) (ts := P1 ++ P2) rfl (by rw [List.length_append]; omega)
  have s2 := sorted_pl (μ := μ) (d := .t (plT (T1 ++ T2))) (ts := T1 ++ T2) rfl (by rw [List.length_append]; omega)
  have pl0 : ∀ x3 x4 x8 : Option D, evE (callI defs k) C_w_due_0 [some W1, some W2, some (.t (iT (P1.map (·.1)))), x3, x4, some (.t (iT ((P2.filter (fun p => mI (P1.map (·.1)) p.1)).map (·.1)))), some (.t (plT (sortP (P1 ++ P2)))), some (.t (plT (sortP (T1 ++ T2)))), x8] μ = .ok (.t (iT ((sortP (P1 ++ P2)).map (·.2)))) μ := fun x3 x4 x8 => by
    have := ev_map (F := callI defs k) (own := [("_law_place", 3), ("_law_price", 4)]) (tg := .tp [.nm 3, .nm 4]) (it := .val (.var 6)) (e := .var 4) (env := [some W1, some W2, some (.t (iT (P1.map (·.1)))), x3, x4, some (.t (iT ((P2.filter (fun p => mI (P1.map (·.1)) p.1)).map (·.1)))), some (.t (plT (sortP (P1 ++ P2)))), some (.t (plT (sortP (T1 ++ T2)))), x8]) (μ := μ) (w := []) (fun p : Int × Int => D.t (pT p)) (sortP (P1 ++ P2)) (fun p => T.int p.2) (by
      simp only [evI, evE, bnd_ap, List.getElem?_cons_zero, List.getElem?_cons_succ, plT, lO_lst, wL_t, mp]) (by rw [sizeLine_eq, sortP_len, List.length_append]; omega) (wok_nil _) (fun x hx => ⟨_, rfl, rfl⟩)
    rw [← ei2] at this
    exact this
  have sm : bfnD true .sum [.t (iT ((sortP (P1 ++ P2)).map (·.2)))] μ = .ok (.t (.int (sumN (P1 ++ P2)))) μ := by
    have h : toIs (((sortP (P1 ++ P2)).map (·.2)).map fun n => D.t (.int n)) = some ((sortP (P1 ++ P2)).map (·.2)) := toIs_of _
    simp only [bfnD, iT, lO_lst, ints_map, Option.bind_some, h]
    have : ((sortP (P1 ++ P2)).map (·.2)).sum = sumN (P1 ++ P2) := sumN_perm (sortP_perm _)
    rw [this]
  have ln : ∀ ps : PL, bfnD true .len [.t (plT ps)] μ = .ok (.t (.int (ps.length : Nat))) μ := fun ps => by
    simp only [bfnD, plT, lO_lst, List.length_map]
  have q1 := ints_nenil ((P2.filter (fun p => mI (P1.map (·.1)) p.1)).map (·.1)) μ
  have z : mkL true [] μ = .ok (.t (.lst [])) μ := mkL_t [] μ (Nat.zero_le _)
  have g : ∀ i j : Int, cmpD .gt (.t (.int i)) (.t (.int j)) μ = .ok (.t (.bl (decide (j < i)))) μ := fun i j => rfl
  have pw : binD .pow (.t (.int 10)) (.t (.int 12)) μ = .ok (.t (.int 1000000000000)) μ := by
    simp only [binD, bI_p12]
  have rb : mkL true [D.t (.bl true), .t (.bl false)] μ = .ok (.t (.lst [.bl true, .bl false])) μ := rfl
  have rw2 : mkTup [.t (plT (sortP (P1 ++ P2))), .t (plT (sortP (T1 ++ T2)))] μ = .ok (.t (webT (sortP (P1 ++ P2)) (sortP (T1 ++ T2)))) μ := rfl
  have lc := leave_t0 μ (.lst [.bl true, .bl false])
  have lw := leave_t0 μ (webT (sortP (P1 ++ P2)) (sortP (T1 ++ T2)))
  have hcm : (!((P2.filter (fun p => mI (P1.map (·.1)) p.1)).map (·.1)).isEmpty) = true ↔ Comm P1 P2 := by
    rw [Bool.not_eq_true', ← Bool.not_eq_true, List.isEmpty_iff, List.map_eq_nil_iff, List.filter_eq_nil_iff]
    constructor
    · intro h
      by_cases hc : Comm P1 P2
      · exact hc
      · exfalso
        apply h
        intro p hp hm
        exact hc ⟨p.1, List.mem_map_of_mem hp, mI_iff.mp hm⟩
    · rintro ⟨n, hn, hn2⟩ h
      obtain ⟨p, hp, rfl⟩ := List.mem_map.mp hn
      exact h p hp (mI_iff.mpr hn2)
  have l40 : (sortP (P1 ++ P2)).length = (P1 ++ P2).length := sortP_len _
  have l120 : (sortP (T1 ++ T2)).length = (T1 ++ T2).length := sortP_len _
  generalize hb : (!((P2.filter (fun p => mI (P1.map (·.1)) p.1)).map (·.1)).isEmpty) = b0 at *
  generalize hX : iT ((P2.filter (fun p => mI (P1.map (·.1)) p.1)).map (·.1)) = X at *
  generalize hN : iT (P1.map (·.1)) = N at *
  have l40' := ln (sortP (P1 ++ P2))
  have l120' := ln (sortP (T1 ++ T2))
  rw [l40] at l40'
  rw [l120] at l120'
  have a2' : binD .add (.t (plT T1)) (.t (plT T2)) μ = .ok (.t (plT (T1 ++ T2))) μ := a2
  have main : ∀ r : T, leave .frz μ (.t r) μ = .ok (.t r) μ → r = (if b0 = true ∨ 40 < (P1 ++ P2).length ∨ 120 < (T1 ++ T2).length ∨ 1000000000000 < sumN (P1 ++ P2) then .lst [.bl true, .bl false] else webT (sortP (P1 ++ P2)) (sortP (T1 ++ T2))) → fin .frz μ (evSs (callI defs k) b_w_due [some W1, some W2, none, none, none, none, none, none, none] μ) = .ok (.t r) μ := by
    intro r hl hr
    rw [b_w_due]
    generalize webT (sortP (P1 ++ P2)) (sortP (T1 ++ T2)) = WW at *
    generalize plT (sortP (P1 ++ P2)) = S1 at *
    generalize plT (sortP (T1 ++ T2)) = S2 at *
    generalize plT (P1 ++ P2) = Q1 at *
    generalize plT (T1 ++ T2) = Q2 at *
    generalize iT ((sortP (P1 ++ P2)).map (·.2)) = C at *
    generalize plT T1 = U1 at *
    generalize plT T2 = U2 at *
    have p0 := pl0 none none none
    clear pl0 h1 h2 a2 l1 l2 hcm hb hX hN ln l40 l120 hW1 hW2
    cases b0 with
    | true =>
      rw [if_pos (.inl rfl)] at hr
      simp only [evSs, evS, evE, evEs, bnd_ap, pur_ap, lift_ap, outO_ap, andThen_ap, ite_ap, ite_apO, toB_ap, asgT, List.getElem?_cons_zero, List.getElem?_cons_succ, List.set_cons_zero, List.set_cons_succ, e1, e2, w10, w11, w20, w21, a1, a2', s1, s2, p0, sm, q1, z, rb, if_true, fin, lc, hr]
    | false =>
      by_cases h40 : 40 < (P1 ++ P2).length
      · have d : decide ((40 : Int) < ((P1 ++ P2).length : Int)) = true := by simp only [decide_eq_true_eq]; omega
        rw [if_pos (.inr (.inl h40))] at hr
        simp only [evSs, evS, evE, evEs, bnd_ap, pur_ap, lift_ap, outO_ap, andThen_ap, ite_ap, ite_apO, toB_ap, asgT, List.getElem?_cons_zero, List.getElem?_cons_succ, List.set_cons_zero, List.set_cons_succ, e1, e2, w10, w11, w20, w21, a1, a2', s1, s2, p0, sm, q1, z, rb, l40', g, d, Bool.false_eq_true, if_true, if_false, fin, lc, hr]
      · have d : decide ((40 : Int) < ((P1 ++ P2).length : Int)) = false := by simp only [decide_eq_false_iff_not]; omega
        by_cases h120 : 120 < (T1 ++ T2).length
        · have d2 : decide ((120 : Int) < ((T1 ++ T2).length : Int)) = true := by simp only [decide_eq_true_eq]; omega
          rw [if_pos (.inr (.inr (.inl h120)))] at hr
          simp only [evSs, evS, evE, evEs, bnd_ap, pur_ap, lift_ap, outO_ap, andThen_ap, ite_ap, ite_apO, toB_ap, asgT, List.getElem?_cons_zero, List.getElem?_cons_succ, List.set_cons_zero, List.set_cons_succ, e1, e2, w10, w11, w20, w21, a1, a2', s1, s2, p0, sm, q1, z, rb, l40', l120', g, d, d2, Bool.false_eq_true, if_true, if_false, fin, lc, hr]
        · have d2 : decide ((120 : Int) < ((T1 ++ T2).length : Int)) = false := by simp only [decide_eq_false_iff_not]; omega
          by_cases hs : 1000000000000 < sumN (P1 ++ P2)
          · have d3 : decide ((1000000000000 : Int) < sumN (P1 ++ P2)) = true := by simp only [decide_eq_true_eq]; omega
            rw [if_pos (.inr (.inr (.inr hs)))] at hr
            simp only [evSs, evS, evE, evEs, bnd_ap, pur_ap, lift_ap, outO_ap, andThen_ap, ite_ap, ite_apO, toB_ap, asgT, List.getElem?_cons_zero, List.getElem?_cons_succ, List.set_cons_zero, List.set_cons_succ, e1, e2, w10, w11, w20, w21, a1, a2', s1, s2, p0, sm, q1, z, rb, l40', l120', g, d, d2, d3, pw, Bool.false_eq_true, if_true, if_false, fin, lc, hr]
          · have d3 : decide ((1000000000000 : Int) < sumN (P1 ++ P2)) = false := by simp only [decide_eq_false_iff_not]; omega
            rw [if_neg (by rintro (h | h | h | h); cases h; exact h40 h; exact h120 h; exact hs h)] at hr
            simp only [evSs, evS, evE, evEs, bnd_ap, pur_ap, lift_ap, outO_ap, andThen_ap, ite_ap, ite_apO, toB_ap, asgT, List.getElem?_cons_zero, List.getElem?_cons_succ, List.set_cons_zero, List.set_cons_succ, e1, e2, w10, w11, w20, w21, a1, a2', s1, s2, p0, sm, q1, z, rw2, l40', l120', g, d, d2, d3, pw, Bool.false_eq_true, if_true, if_false, fin, lw, hr]
  rw [b_w_due] at main
  refine main (dueV P1 T1 P2 T2) (leave_t0 μ _) ?_
  unfold dueV BadL
  by_cases h : Comm P1 P2 ∨ 40 < (P1 ++ P2).length ∨ 120 < (T1 ++ T2).length ∨ 1000000000000 < sumN (P1 ++ P2)
  · rw [if_pos h, if_pos (h.imp_left hcm.mpr)]
  · rw [if_neg h, if_neg fun h2 => h (h2.imp_left hcm.mp)]
theorem c_w_copy_d {k : Nat} (hk : 1 ≤ k) {d1 : D} {P1 T1 : PL} {μ : Mem} (h1 : LT μ d1 (P1.map pT)) (n1 : P1.length ≤ 1000) (m1 : T1.length ≤ 1000) : callI defs k F_w_copy [.tp [d1, .t (plT T1)]] μ = .ok (.t (webT P1 T1)) μ := by
  obtain ⟨k, rfl, hk⟩ := callI_at (defs := defs) (f := 0) hk
  rw [u_w_copy, b_w_copy]
  have w10 : ixD (.tp [d1, .t (plT T1)]) (.t (.int 0)) μ = .ok d1 μ := rfl
  have w11 : ixD (.tp [d1, .t (plT T1)]) (.t (.int 1)) μ = .ok (.t (plT T1)) μ := rfl
  have l1 := h1.lst
  have q1 : bfnD true .list [d1] μ = .ok (.t (plT P1)) μ := by
    have : mkL true ((P1.map pT).map D.t) μ = .ok (.t (plT P1)) μ := mkL_t _ _ (by rw [sizeLine_eq, List.length_map]; omega)
    rcases h1.cases with rfl | ⟨c, rfl, hc⟩ <;> simp only [bfnD, l1, this]
  have q2 : bfnD true .list [.t (plT T1)] μ = .ok (.t (plT T1)) μ := by
    simp only [bfnD, plT, lO_lst]
    exact mkL_t _ _ (by rw [sizeLine_eq, List.length_map]; omega)
  have q4 : mkTup [.t (plT P1), .t (plT T1)] μ = .ok (.t (webT P1 T1)) μ := rfl
  have lw := leave_t0 μ (webT P1 T1)
  generalize D.tp [d1, .t (plT T1)] = W1 at *
  simp only [evSs, evS, evE, evEs, bnd_ap, pur_ap, lift_ap, outO_ap, andThen_ap, List.getElem?_cons_zero, w10, w11, q1, q2, q4, fin, lw]
/-! slices of plain lists -/
def cutT (L : List T) (lo hi : Option Int) : List T := (L.drop (sIx L.length 0 lo)).take (sIx L.length L.length hi - sIx L.length 0 lo)
theorem cutT_le (L : List T) (lo hi : Option Int) : (cutT L lo hi).length ≤ L.length := by
  rw [cutT, List.length_take, List.length_drop]
  omega
theorem slc_T (L : List T) (lo hi : Option Int) (μ : Mem) (h : L.length ≤ 16777216) : slcD true (.t (.lst L)) lo hi μ = .ok (.t (.lst (cutT L lo hi))) μ := by
  have e : MI.cutD (L.map D.t) lo hi = (cutT L lo hi).map D.t := by
    unfold MI.cutD cutT
    rw [List.length_map, List.map_take, List.map_drop]
  simp only [slcD, lO_lst, e]
  exact mkL_t _ _ (by rw [sizeLine_eq]; have := cutT_le L lo hi; omega)
theorem cutT_to (L : List T) (n : Nat) : cutT L none (some (n : Int)) = L.take n := by
  have e1 : sIx L.length L.length (some (n : Int)) = min n L.length := HT.sIx_nat _ _ _
  have e2 : sIx L.length 0 none = 0 := rfl
  unfold cutT
  rw [e1, e2, List.drop_zero, Nat.sub_zero]
  by_cases h : n ≤ L.length
  · rw [Nat.min_eq_left h]
  · rw [Nat.min_eq_right (by omega), List.take_of_length_le (Nat.le_refl _), List.take_of_length_le (by omega)]
theorem cutT_at (L : List T) (a b : Nat) (h : a ≤ L.length) : cutT L (some (a : Int)) (some (b : Int)) = (L.drop a).take (min b L.length - a) := by
  have e1 : sIx L.length L.length (some (b : Int)) = min b L.length := HT.sIx_nat _ _ _
  have e2 : sIx L.length 0 (some (a : Int)) = min a L.length := HT.sIx_nat _ _ _
  unfold cutT
  rw [e1, e2, Nat.min_eq_left h]
theorem cutT_sub (L : List T) (lo hi : Option Int) : ∀ t ∈ cutT L lo hi, t ∈ L := fun t ht => List.mem_of_mem_drop (List.mem_of_mem_take ht)
theorem add_T (a b : List T) (μ : Mem) (h : a.length + b.length ≤ 16777216) : binD .add (.t (.lst a)) (.t (.lst b)) μ = .ok (.t (.lst (a ++ b))) μ := by
  have e := toTs_of (a ++ b)
  rw [List.map_append] at e
  simp only [binD, lstN, lstOf, mkL, List.length_append, List.length_map, sizeLine_eq, if_pos h, e]
/-! ### ties among the first twelve -/
def LaN (ns : List Int) (k j : Nat) (b : Int × Int) : Prop := (∀ h : k < ns.length, b.1 < ns[k]) ∨ (∃ h : k < ns.length, b.1 = ns[k] ∧ ∀ h : j < ns.length, b.2 < ns[j])
theorem TiOk.take {ks : List Int} : ∀ {ts : PL} {b : Int × Int} (n : Nat), TiOk ks b ts → TiOk ks b (ts.take n)
  | [], _, _, _ => by rw [List.take_nil]; trivial
  | t :: r, b, 0, _ => trivial
  | t :: r, b, n + 1, h => ⟨h.1, h.2.1, h.2.2.1, h.2.2.2.1, TiOk.take n h.2.2.2.2⟩
theorem in_at {ns : List Int} {i : Nat} (h : i < ns.length) : ((ns.map T.int).map D.t)[i]? = some (.t (.int ns[i])) := by
  rw [List.getElem?_map, List.getElem?_map, List.getElem?_eq_getElem h]; rfl
theorem c_w_ties {k : Nat} (hk : 3 ≤ k) (A : Mem) (s : St) (ν : Mem) {d : D} {P : PL} (cr : Bool) (hP : LT (A ++ stC s :: ν) d (P.map pT)) (hp : P.Pairwise (fun a b => a.1 < b.1)) (h0 : ∀ p ∈ P, -1 < p.1) (n1 : P.length ≤ 1000) :
    ∃ ts s', TiOk (P.map (·.1)) (-1, -1) ts ∧ ts.length ≤ 63 ∧ callI defs k F_w_ties [.ref A.length, d, .t (.bl cr)] (A ++ stC s :: ν) = .ok (.t (plT ts)) (A ++ stC s' :: ν) := by
  obtain ⟨k, rfl, hk⟩ := callI_at (defs := defs) (f := 0) hk
  rw [u_w_ties, b_w_ties]
  have ei : ∀ l : PL, iT (l.map (·.1)) = T.lst (l.map fun p => T.int p.1) := fun l => by rw [iT, List.map_map]; rfl
  have mp : ∀ ps : PL, (ps.map pT).map D.t = ps.map fun p => D.t (pT p) := fun ps => by rw [List.map_map]; rfl
  have l1 := hP.lst
  have e0 : evE (callI defs k) C_w_ties_2 [some (.ref A.length), some d, some (.t (.bl cr)), none, none, none, none, none, none, none] (A ++ stC s :: ν) = .ok (.t (iT (P.map (·.1)))) (A ++ stC s :: ν) := by
    have := ev_map (F := callI defs k) (own := [("_law_place", 4), ("_law_price", 5)]) (tg := .tp [.nm 4, .nm 5]) (it := .val (.var 1)) (e := .var 4) (env := [some (.ref A.length), some d, some (.t (.bl cr)), none, none, none, none, none, none, none]) (μ := A ++ stC s :: ν) (w := watchL d ((P.map pT).map D.t)) (fun p : Int × Int => D.t (pT p)) P (fun p => T.int p.1) (by
      simp only [evI, evE, bnd_ap, List.getElem?_cons_zero, List.getElem?_cons_succ, l1, mp]) (by rw [sizeLine_eq]; omega) hP.wat (fun x hx => ⟨_, rfl, rfl⟩)
    rw [← ei] at this
    exact this
  obtain ⟨ns, hns⟩ : ∃ ns, (P.map (·.1)).take 12 = ns := ⟨_, rfl⟩
  have hl12 : ns.length ≤ 12 := by rw [← hns, List.length_take]; omega
  have hsub : ∀ n ∈ ns, n ∈ P.map (·.1) := fun n hn => List.mem_of_mem_take (hns ▸ hn)
  have hpos : ∀ n ∈ ns, -1 < n := fun n hn => by
    obtain ⟨p, hp, rfl⟩ := List.mem_map.mp (hsub n hn)
    exact h0 p hp
  have hr : ∀ {i j : Nat} (hi : i < ns.length) (hj : j < ns.length), i < j → ns[i] < ns[j] := by
    have h1 : (P.map (·.1)).Pairwise (· < ·) := by rw [List.pairwise_map]; exact hp
    have h2 : ns.Pairwise (· < ·) := hns ▸ h1.sublist (List.take_sublist _ _)
    intro i j hi hj hij
    exact List.pairwise_iff_getElem.mp h2 i j hi hj hij
  have e1 : ∀ μ, slcD true (.t (iT (P.map (·.1)))) none (some 12) μ = .ok (.t (iT ns)) μ := fun μ => by
    have := slc_T ((P.map (·.1)).map T.int) none (some 12) μ (by simp; omega)
    rw [show (12 : Int) = ((12 : Nat) : Int) from rfl, cutT_to, ← List.map_take, hns] at this
    exact this
  obtain ⟨dn, s1, hd0, hd1, e2⟩ := c_w_take (k := k) (by omega) A s 4 (ν ++ [.lst []]) (by decide) (by decide)
  have htri := tri_le ns.length (by omega)
  have htm : ∀ j, j ≤ ns.length → tri ns.length j ≤ tri ns.length ns.length := fun j hj => tri_mono hj
  obtain ⟨env', μ', e4, ts, s4, x8, x9, hti, hlen, hla, rfl, rfl⟩ := for_run (tg := .nm 8) (b := fun env => evSs (callI defs k) L_w_ties_1 env) (w := []) (fun (i : Nat) => D.t (.int (0 + (i : Int)))) (List.range ns.length)
    (fun pre env μ' => ∃ (ts : PL) (s : St) (x8 x9 : Option D), TiOk (P.map (·.1)) (-1, -1) ts ∧ ts.length ≤ tri ns.length pre.length ∧ LaN ns pre.length 0 (lasT (-1, -1) ts) ∧ env = [some (.ref A.length), some d, some (.t (.bl cr)), some (.t (iT ns)), none, none, some (.ref (A.length + (ν.length + 1))), some (.t (.int (1 + dn))), x8, x9] ∧ μ' = A ++ stC s :: (ν ++ [.lst ((ts.map pT).map D.t)]))
    (env := [some (.ref A.length), some d, some (.t (.bl cr)), some (.t (iT ns)), none, none, some (.ref (A.length + (ν.length + 1))), some (.t (.int (1 + dn))), none, none]) (μ := A ++ stC s1 :: (ν ++ [.lst []]))
    ⟨[], s1, none, none, trivial, by simp, .inl fun h => hpos _ (List.getElem_mem h), rfl, rfl⟩ (fun _ _ _ _ => wok_nil _) (fun pre i post env μ' hx hp => by
      obtain ⟨ts, s4, x8, x9, hti, hlen, hla, rfl, rfl⟩ := hp
      obtain ⟨hi, hi2⟩ := rng_at hx
      subst hi
      refine ⟨_, rfl, ?_⟩
      obtain ⟨env', μ', e5, ts', s5, y9, hti', hlen', hla', rfl, rfl⟩ := for_run (tg := .nm 9) (b := fun env => evSs (callI defs k) L_w_ties_0 env) (w := []) (fun (j : Nat) => D.t (.int ((0 + (pre.length : Int)) + 1 + (j : Int)))) (List.range (ns.length - pre.length - 1))
        (fun pre2 env μ' => ∃ (ts' : PL) (s : St) (x9 : Option D), TiOk (P.map (·.1)) (-1, -1) ts' ∧ ts'.length ≤ tri ns.length pre.length + pre2.length ∧ LaN ns pre.length (pre.length + 1 + pre2.length) (lasT (-1, -1) ts') ∧ env = [some (.ref A.length), some d, some (.t (.bl cr)), some (.t (iT ns)), none, none, some (.ref (A.length + (ν.length + 1))), some (.t (.int (1 + dn))), some (.t (.int (0 + (pre.length : Int)))), x9] ∧ μ' = A ++ stC s :: (ν ++ [.lst ((ts'.map pT).map D.t)]))
        (env := [some (.ref A.length), some d, some (.t (.bl cr)), some (.t (iT ns)), none, none, some (.ref (A.length + (ν.length + 1))), some (.t (.int (1 + dn))), some (.t (.int (0 + (pre.length : Int)))), x9]) (μ := A ++ stC s4 :: (ν ++ [.lst ((ts.map pT).map D.t)]))
        ⟨ts, s4, x9, hti, by simpa using hlen, hla.elim (fun h => .inl h) (fun ⟨h, h1, h2⟩ => .inr ⟨h, h1, fun h3 => by
            have := h2 (by omega)
            by_cases e0 : 0 < pre.length + 1 + ([] : List Nat).length
            · exact Int.lt_trans this (hr (by omega) h3 e0)
            · omega⟩), rfl, rfl⟩ (fun _ _ _ _ => wok_nil _) (fun pre2 j post2 env μ' hx2 hp2 => by
          obtain ⟨ts', s5, y9, hti', hlen', hla', rfl, rfl⟩ := hp2
          obtain ⟨hj, hj2⟩ := rng_at hx2
          subst hj
          refine ⟨_, rfl, ?_⟩
          obtain ⟨c, s6, hc0, hc1, e6⟩ := c_w_take (k := k) (by omega) A s5 5 (ν ++ [.lst ((ts'.map pT).map D.t)]) (by decide) (by decide)
          have g1 := in_at hi2
          have hj3 : pre.length + 1 + pre2.length < ns.length := by omega
          have g2 := in_at hj3
          have n1 : (0 + (pre.length : Int)).toNat = pre.length := by omega
          have n2 : (0 + (pre.length : Int) + 1 + (pre2.length : Int)).toNat = pre.length + 1 + pre2.length := by omega
          have b1 : 0 ≤ 0 + (pre.length : Int) := by omega
          have b2 : 0 ≤ 0 + (pre.length : Int) + 1 + (pre2.length : Int) := by omega
          have b3 : 0 + (pre.length : Int) < (ns.length : Int) := by omega
          have b4 : 0 + (pre.length : Int) + 1 + (pre2.length : Int) < (ns.length : Int) := by omega
          have hts : ts'.length < 16777216 := by
            have := htm pre.length (by omega)
            omega
          have hcond : ∃ (b : Bool) (s6 : St), evE (callI defs k) (E.or (.var 2) (.cmp .lt (.call F_w_take (.cons (.var 0) (.cons (.cst (.int 5)) .nil))) (.var 7))) [some (.ref A.length), some d, some (.t (.bl cr)), some (.t (iT ns)), none, none, some (.ref (A.length + (ν.length + 1))), some (.t (.int (1 + dn))), some (.t (.int (0 + (pre.length : Int)))), some (.t (.int (0 + (pre.length : Int) + 1 + (pre2.length : Int))))] (A ++ stC s5 :: (ν ++ [.lst ((ts'.map pT).map D.t)])) = .ok (.t (.bl b)) (A ++ stC s6 :: (ν ++ [.lst ((ts'.map pT).map D.t)])) := by
            cases cr with
            | true => exact ⟨true, s5, rfl⟩
            | false =>
              refine ⟨decide (c < 1 + dn), s6, ?_⟩
              have lt : ∀ i j : Int, ∀ μ, cmpD .lt (.t (.int i)) (.t (.int j)) μ = .ok (.t (.bl (decide (i < j)))) μ := fun i j μ => rfl
              simp only [evE, evEs, bnd_ap, pur_ap, List.getElem?_cons_zero, List.getElem?_cons_succ, toB_ap, ite_ap, Bool.false_eq_true, if_false, e6, lt]
          obtain ⟨b, s6, e7⟩ := hcond
          have x3 : ixD (.t (iT ns)) (.t (.int (0 + (pre.length : Int)))) (A ++ stC s6 :: (ν ++ [.lst ((ts'.map pT).map D.t)])) = .ok (.t (.int ns[pre.length])) (A ++ stC s6 :: (ν ++ [.lst ((ts'.map pT).map D.t)])) := by
            clear hx hx2 hti hti' hla hla' hlen hlen' e7 e6
            simp only [iT]
            walk_at "mi"
          have x4 : ixD (.t (iT ns)) (.t (.int (0 + (pre.length : Int) + 1 + (pre2.length : Int)))) (A ++ stC s6 :: (ν ++ [.lst ((ts'.map pT).map D.t)])) = .ok (.t (.int ns[pre.length + 1 + pre2.length])) (A ++ stC s6 :: (ν ++ [.lst ((ts'.map pT).map D.t)])) := by
            clear hx hx2 hti hti' hla hla' hlen hlen' e7 e6
            simp only [iT]
            walk_at "mi"
          cases b with
          | true =>
            refine ⟨_, _, ?_, ts' ++ [(ns[pre.length], ns[pre.length + 1 + pre2.length])], s6, some (.t (.int (0 + (pre.length : Int) + 1 + (pre2.length : Int)))), hti'.snoc (hr hi2 hj3 (by omega)) (hsub _ (List.getElem_mem hi2)) (hsub _ (List.getElem_mem hj3)) ?_, by simp; omega, ?_, rfl, rfl⟩
            · rw [L_w_ties_0]
              have mt : ∀ μ, mkTup [.t (.int ns[pre.length]), .t (.int ns[pre.length + 1 + pre2.length])] μ = .ok (.t (pT (ns[pre.length], ns[pre.length + 1 + pre2.length]))) μ := fun μ => rfl
              have gc : (A ++ stC s6 :: (ν ++ [.lst ((ts'.map pT).map D.t)]))[A.length + (ν.length + 1)]? = some (.lst ((ts'.map pT).map D.t)) := by
                rw [getA, List.getElem?_cons_succ, getA0]
                rfl
              have st : (A ++ stC s6 :: (ν ++ [.lst ((ts'.map pT).map D.t)])).set (A.length + (ν.length + 1)) (.lst ((ts'.map pT).map D.t ++ [.t (pT (ns[pre.length], ns[pre.length + 1 + pre2.length]))])) = A ++ stC s6 :: (ν ++ [.lst (((ts' ++ [(ns[pre.length], ns[pre.length + 1 + pre2.length])]).map pT).map D.t)]) := by
                rw [setA, List.set_cons_succ, setA0]
                simp
              have ap : mthD .append (.ref (A.length + (ν.length + 1))) [.t (pT (ns[pre.length], ns[pre.length + 1 + pre2.length]))] (A ++ stC s6 :: (ν ++ [.lst ((ts'.map pT).map D.t)])) = .ok (.t .non) (A ++ stC s6 :: (ν ++ [.lst (((ts' ++ [(ns[pre.length], ns[pre.length + 1 + pre2.length])]).map pT).map D.t)])) := by
                have z : ((ts'.map pT).map D.t).length < 16777216 := by simp; exact hts
                simp only [mthD, gc, sizeLine_eq, z, if_true, st]
              have ty : tyOf (A ++ stC s6 :: (ν ++ [.lst ((ts'.map pT).map D.t)])) (.ref (A.length + (ν.length + 1))) = some .lst := by simp only [tyOf, gc]
              simp only [List.set_cons_zero, List.set_cons_succ]
              rw [evSs, andThen_ap]
              simp only [evS, lift_ap, e7, bnd_ap, toB_ap]
              clear hx hx2 hti hti' hla hla' hlen hlen' g1 g2 gc st e7 e6
              simp only [ite_apO, if_true, evSs, evS, evE, evEs, bnd_ap, pur_ap, lift_ap, outO_ap, andThen_ap, List.getElem?_cons_zero, List.getElem?_cons_succ, x3, x4, mt, tyChk, mthT, ty, ap]
            · rcases hla' with h | ⟨h, h1, h2⟩
              · exact .inl (h hi2)
              · exact .inr ⟨h1, h2 hj3⟩
            · rw [lasT_snoc]
              refine .inr ⟨hi2, rfl, fun h => ?_⟩
              exact hr hj3 _ (by simp)
          | false =>
            refine ⟨_, _, ?_, ts', s6, some (.t (.int (0 + (pre.length : Int) + 1 + (pre2.length : Int)))), hti', by simp; omega, ?_, rfl, rfl⟩
            · simp only [List.set_cons_zero, List.set_cons_succ]
              rw [L_w_ties_0, evSs, andThen_ap]
              simp only [evS, lift_ap, e7, bnd_ap, toB_ap]
              simp only [ite_apO, Bool.false_eq_true, if_false, evSs, outO_ap, andThen_ap]
            · rcases hla' with h | ⟨h, h1, h2⟩
              · exact .inl h
              · exact .inr ⟨h, h1, fun h3 => Int.lt_trans (h2 hj3) (hr hj3 _ (by simp))⟩)
      refine ⟨_, _, ?_, ts', s5, some (.t (.int (0 + (pre.length : Int)))), y9, hti', (by rw [List.length_range] at hlen'; rw [List.length_append, List.length_singleton, tri]; omega), ?_, rfl, rfl⟩
      · rw [← rngD_map] at e5
        rw [L_w_ties_1]
        have hm1 : ((ns.length : Int) - (0 + (pre.length : Int) + 1)).toNat = ns.length - pre.length - 1 := by omega
        have ln : ∀ μ, bfnD true .len [.t (iT ns)] μ = .ok (.t (.int (ns.length : Nat))) μ := fun μ => by simp only [bfnD, iT, lO_lst, List.length_map]
        have ad : ∀ i j : Int, ∀ μ, binD .add (.t (.int i)) (.t (.int j)) μ = .ok (.t (.int (i + j))) μ := fun i j μ => by simp only [binD, bI_add]
        have rg : ∀ μ, rngM (0 + (pre.length : Int) + 1) (ns.length : Int) μ = .ok (rngD (0 + (pre.length : Int) + 1) (ns.length - pre.length - 1), []) μ := fun μ => by
          rw [rngM_ok _ _ _ (by omega) (by omega) (by omega) (by omega), hm1]
        clear hx hti hti' hla hla' hlen hlen' hm1
        simp only [evSs, evS, evE, evEs, evI, bnd_ap, pur_ap, lift_ap, outO_ap, andThen_ap, List.getElem?_cons_zero, List.getElem?_cons_succ, List.set_cons_zero, List.set_cons_succ, ad, ln, toI, rg, e5]
      · rcases hla' with h | ⟨h, h1, h2⟩
        · exact .inl fun h3 => by
            simp only [List.length_append, List.length_singleton] at h3 ⊢
            exact Int.lt_trans (h hi2) (hr hi2 h3 (by omega))
        · exact .inl fun h3 => by
            simp only [List.length_append, List.length_singleton] at h3 ⊢
            rw [h1]
            exact hr hi2 h3 (by omega))
  rw [List.length_range] at hlen
  obtain ⟨d7, s5, h70, h71, e6⟩ := c_w_take (k := k) (by omega) A s4 7 (ν ++ [.lst ((ts.map pT).map D.t)]) (by decide) (by decide)
  obtain ⟨us, hus⟩ : ∃ us, ts.take (57 + d7).toNat = us := ⟨_, rfl⟩
  refine ⟨us, s5, hus ▸ hti.take _, by rw [← hus, List.length_take]; omega, ?_⟩
  rw [← rngD_map] at e4
  have gc : (A ++ stC s5 :: (ν ++ [.lst ((ts.map pT).map D.t)]))[A.length + (ν.length + 1)]? = some (.lst ((ts.map pT).map D.t)) := by
    rw [getA, List.getElem?_cons_succ, getA0]
    rfl
  have e7 : slcD true (.ref (A.length + (ν.length + 1))) none (some (57 + d7)) (A ++ stC s5 :: (ν ++ [.lst ((ts.map pT).map D.t)])) = .ok (.t (plT us)) (A ++ stC s5 :: (ν ++ [.lst ((ts.map pT).map D.t)])) := by
    have h1 := slc_T (ts.map pT) none (some (57 + d7)) (A ++ stC s5 :: (ν ++ [.lst ((ts.map pT).map D.t)])) (by simp; omega)
    have h2 : 57 + d7 = (((57 + d7).toNat : Nat) : Int) := by omega
    rw [h2, cutT_to, ← List.map_take, hus, ← h2] at h1
    simp only [slcD, lO_lst, lO_ref, gc] at h1 ⊢
    exact h1
  have ln : ∀ μ, bfnD true .len [.t (iT ns)] μ = .ok (.t (.int (ns.length : Nat))) μ := fun μ => by simp only [bfnD, iT, lO_lst, List.length_map]
  have ad : ∀ i j : Int, ∀ μ, binD .add (.t (.int i)) (.t (.int j)) μ = .ok (.t (.int (i + j))) μ := fun i j μ => by simp only [binD, bI_add]
  have rg : ∀ μ, rngM0 (ns.length : Int) μ = .ok (rngD 0 ns.length, []) μ := fun μ => by
    have := rngM0_ok (ns.length : Int) μ (by omega) (by omega)
    rwa [Int.toNat_natCast] at this
  have mk0 : mkL false [] (A ++ stC s :: ν) = .ok (.ref (A.length + (ν.length + 1))) (A ++ stC s :: (ν ++ [.lst []])) := by
    rw [mkL_c _ _ (Nat.zero_le _)]
    simp
  have lv := leave_s A s s5 ν [.lst ((ts.map pT).map D.t)] (plT us)
  clear hti hlen hla hr hP l1 hp h0 hns hsub hpos htm htri gc hus
  generalize plT us = U at *
  generalize iT ns = N at *
  generalize iT (P.map (·.1)) = N0 at *
  simp only [evSs, evS, evE, evEs, evEo, evI, bnd_ap, pur_ap, lift_ap, outO_ap, andThen_ap, asgT, toI, List.getElem?_cons_zero, List.getElem?_cons_succ, List.set_cons_zero, List.set_cons_succ, e0, e1, mk0, e2, ad, ln, rg, e4, e6, e7, fin, lv]
/-! ### places dealt to two -/
abbrev plC (A : PL) : Cell := .lst ((A.map pT).map D.t)
def Ext (p : Int × Int) (A A' : PL) : Prop := A' = A ∨ A' = A ++ [p]
theorem Ext.sub {p : Int × Int} {A A' P : PL} (h : Ext p A A') (hs : A.Sublist P) : A'.Sublist (P ++ [p]) := by
  rcases h with rfl | rfl
  · exact hs.trans (List.sublist_append_left _ _)
  · exact hs.append (.refl _)
abbrev outC (μ : Mem) : Cell := .lst [.ref μ.length, .ref (μ.length + 1)]
theorem ix_cell {μ : Mem} {c : Nat} {ds : List D} {i : Int} {d : D} (h : μ[c]? = some (.lst ds)) (hi : ((idx ds.length i).bind fun j => ds[j]?) = some d) : ixD (.ref c) (.t (.int i)) μ = .ok d μ := by
  simp only [ixD, tupOf, lstOf, dctOf, dctTOf, h, toI, hi]
theorem dl_step {k : Nat} (scr : D) {ps : PL} {i : Nat} (hi : i < ps.length) (x4 x5 : Option D) {j : Int} (hj : j = 0 ∨ j = 1) (μ κ : Mem) {A B : PL} (hA : A.length ≤ 40) (hB : B.length ≤ 40) :
    ∃ A' B', A'.length ≤ 40 ∧ B'.length ≤ 40 ∧ (j = 0 → Ext ps[i] A A' ∧ B' = B) ∧ (j = 1 → A' = A ∧ Ext ps[i] B B') ∧ evSs (callI defs k) L_w_dealt_k_0 [some scr, some (.t (plT ps)), some (.ref (μ.length + 2)), some (.t (.int (0 + (i : Int)))), x4, x5, some (.t (.int j))] (μ ++ (plC A :: plC B :: outC μ :: κ)) = some (.nx [some scr, some (.t (plT ps)), some (.ref (μ.length + 2)), some (.t (.int (0 + (i : Int)))), x4, x5, some (.t (.int j))], μ ++ (plC A' :: plC B' :: outC μ :: κ)) := by
  have gp : ∀ μ', ixD (.t (plT ps)) (.t (.int (0 + (i : Int)))) μ' = .ok (.t (pT ps[i])) μ' := fun μ' => by
    have g1 := pl_at hi
    have n1 : (0 + (i : Int)).toNat = i := by omega
    have b1 : 0 ≤ 0 + (i : Int) := by omega
    have b3 : 0 + (i : Int) < (ps.length : Int) := by omega
    simp only [plT]
    walk_at "mi"
    rfl
  have lt : ∀ i j : Int, ∀ μ, cmpD .lt (.t (.int i)) (.t (.int j)) μ = .ok (.t (.bl (decide (i < j)))) μ := fun i j μ => rfl
  rcases hj with rfl | rfl
  · have gx : ixD (.ref (μ.length + 2)) (.t (.int 0)) (μ ++ (plC A :: plC B :: outC μ :: κ)) = .ok (.ref μ.length) (μ ++ (plC A :: plC B :: outC μ :: κ)) := by
      exact ix_cell (ds := [.ref μ.length, .ref (μ.length + 1)]) (by rw [getA]; rfl) rfl
    have gc : (μ ++ (plC A :: plC B :: outC μ :: κ))[μ.length]? = some (plC A) := by rw [getA0]; rfl
    have ln : bfnD true .len [.ref μ.length] (μ ++ (plC A :: plC B :: outC μ :: κ)) = .ok (.t (.int (A.length : Nat))) (μ ++ (plC A :: plC B :: outC μ :: κ)) := by
      simp only [bfnD, lO_ref, gc, List.length_map]
    by_cases h : A.length < 40
    · have d : decide ((A.length : Int) < 40) = true := by simp only [decide_eq_true_eq]; omega
      have ty : tyOf (μ ++ (plC A :: plC B :: outC μ :: κ)) (.ref μ.length) = some .lst := by simp only [tyOf, gc]
      have ap : mthD .append (.ref μ.length) [.t (pT ps[i])] (μ ++ (plC A :: plC B :: outC μ :: κ)) = .ok (.t .non) (μ ++ (plC (A ++ [ps[i]]) :: plC B :: outC μ :: κ)) := by
        have z : ((A.map pT).map D.t).length < 16777216 := by simp; omega
        simp only [mthD, gc, sizeLine_eq, z, if_true, setA0, List.set_cons_zero, plC, List.map_append, List.map_cons, List.map_nil]
      refine ⟨A ++ [ps[i]], B, by simp; omega, hB, fun _ => ⟨.inr rfl, rfl⟩, fun h => (by cases h), ?_⟩
      rw [L_w_dealt_k_0]
      clear gc
      simp only [evSs, evS, evE, evEs, bnd_ap, pur_ap, lift_ap, outO_ap, andThen_ap, ite_ap, ite_apO, toB_ap, List.getElem?_cons_zero, List.getElem?_cons_succ, gx, ln, lt, d, if_true, gp, tyChk, mthT, ty, ap]
    · have d : decide ((A.length : Int) < 40) = false := by simp only [decide_eq_false_iff_not]; omega
      refine ⟨A, B, hA, hB, fun _ => ⟨.inl rfl, rfl⟩, fun h => (by cases h), ?_⟩
      rw [L_w_dealt_k_0]
      clear gc
      simp only [evSs, evS, evE, evEs, bnd_ap, pur_ap, lift_ap, outO_ap, andThen_ap, ite_ap, ite_apO, toB_ap, List.getElem?_cons_zero, List.getElem?_cons_succ, gx, ln, lt, d, Bool.false_eq_true, if_false]
  · have gx : ixD (.ref (μ.length + 2)) (.t (.int 1)) (μ ++ (plC A :: plC B :: outC μ :: κ)) = .ok (.ref (μ.length + 1)) (μ ++ (plC A :: plC B :: outC μ :: κ)) := by
      exact ix_cell (ds := [.ref μ.length, .ref (μ.length + 1)]) (by rw [getA]; rfl) rfl
    have gc : (μ ++ (plC A :: plC B :: outC μ :: κ))[μ.length + 1]? = some (plC B) := by rw [getA]; rfl
    have ln : bfnD true .len [.ref (μ.length + 1)] (μ ++ (plC A :: plC B :: outC μ :: κ)) = .ok (.t (.int (B.length : Nat))) (μ ++ (plC A :: plC B :: outC μ :: κ)) := by
      simp only [bfnD, lO_ref, gc, List.length_map]
    by_cases h : B.length < 40
    · have d : decide ((B.length : Int) < 40) = true := by simp only [decide_eq_true_eq]; omega
      have ty : tyOf (μ ++ (plC A :: plC B :: outC μ :: κ)) (.ref (μ.length + 1)) = some .lst := by simp only [tyOf, gc]
      have ap : mthD .append (.ref (μ.length + 1)) [.t (pT ps[i])] (μ ++ (plC A :: plC B :: outC μ :: κ)) = .ok (.t .non) (μ ++ (plC A :: plC (B ++ [ps[i]]) :: outC μ :: κ)) := by
        have z : ((B.map pT).map D.t).length < 16777216 := by simp; omega
        simp only [mthD, gc, sizeLine_eq, z, if_true, setA, List.set_cons_succ, List.set_cons_zero, plC, List.map_append, List.map_cons, List.map_nil]
      refine ⟨A, B ++ [ps[i]], hA, by simp; omega, fun h => (by cases h), fun _ => ⟨rfl, .inr rfl⟩, ?_⟩
      rw [L_w_dealt_k_0]
      clear gc
      simp only [evSs, evS, evE, evEs, bnd_ap, pur_ap, lift_ap, outO_ap, andThen_ap, ite_ap, ite_apO, toB_ap, List.getElem?_cons_zero, List.getElem?_cons_succ, gx, ln, lt, d, if_true, gp, tyChk, mthT, ty, ap]
    · have d : decide ((B.length : Int) < 40) = false := by simp only [decide_eq_false_iff_not]; omega
      refine ⟨A, B, hA, hB, fun h => (by cases h), fun _ => ⟨rfl, .inl rfl⟩, ?_⟩
      rw [L_w_dealt_k_0]
      clear gc
      simp only [evSs, evS, evE, evEs, bnd_ap, pur_ap, lift_ap, outO_ap, andThen_ap, ite_ap, ite_apO, toB_ap, List.getElem?_cons_zero, List.getElem?_cons_succ, gx, ln, lt, d, Bool.false_eq_true, if_false]
theorem dl_inner {k : Nat} (scr : D) {ps : PL} {i : Nat} (hi : i < ps.length) (x4 x5 x6 : Option D) {j : Int} (hj : j = 0 ∨ j = 1) (b : Bool) (μ κ : Mem) {A B : PL} (hA : A.length ≤ 40) (hB : B.length ≤ 40) :
    ∃ A' B' y6, A'.length ≤ 40 ∧ B'.length ≤ 40 ∧ Ext ps[i] A A' ∧ Ext ps[i] B B' ∧ forLoop (.nm 6) (fun env => evSs (callI defs k) L_w_dealt_k_0 env) [] (if b = true then [.t (.int j), .t (.int (1 - j))] else [.t (.int j)]) [some scr, some (.t (plT ps)), some (.ref (μ.length + 2)), some (.t (.int (0 + (i : Int)))), x4, x5, x6] (μ ++ (plC A :: plC B :: outC μ :: κ)) = some (.nx [some scr, some (.t (plT ps)), some (.ref (μ.length + 2)), some (.t (.int (0 + (i : Int)))), x4, x5, y6], μ ++ (plC A' :: plC B' :: outC μ :: κ)) := by
  obtain ⟨A1, B1, a1, b1, h0, h1, e1⟩ := dl_step (k := k) scr hi x4 x5 hj μ κ hA hB
  cases b with
  | false =>
    refine ⟨A1, B1, some (.t (.int j)), a1, b1, ?_, ?_, ?_⟩
    · rcases hj with rfl | rfl
      · exact (h0 rfl).1
      · rw [(h1 rfl).1]; exact .inl rfl
    · rcases hj with rfl | rfl
      · rw [(h0 rfl).2]; exact .inl rfl
      · exact (h1 rfl).2
    · simp only [Bool.false_eq_true, if_false, forLoop, if_pos (wok_nil _), asgT, List.set_cons_succ, List.set_cons_zero, List.length_cons, List.length_nil, e1]
  | true =>
    obtain ⟨A2, B2, a2, b2, h2, h3, e2⟩ := dl_step (k := k) scr hi x4 x5 (j := 1 - j) (by omega) μ κ a1 b1
    refine ⟨A2, B2, some (.t (.int (1 - j))), a2, b2, ?_, ?_, ?_⟩
    · rcases hj with rfl | rfl
      · rw [(h3 rfl).1]; exact (h0 rfl).1
      · have := (h2 rfl).1
        rwa [(h1 rfl).1] at this
    · rcases hj with rfl | rfl
      · have := (h3 rfl).2
        rwa [(h0 rfl).2] at this
      · rw [(h2 rfl).2]; exact (h1 rfl).2
    · simp only [if_true, forLoop, if_pos (wok_nil _), asgT, List.set_cons_succ, List.set_cons_zero, List.length_cons, List.length_nil, e1, e2]
theorem c_w_dealt {k : Nat} (hk : 2 ≤ k) (ns : List Int) (hn : ns.length ≤ 63) (ps : PL) (hl : ps.length ≤ 1000) (μ : Mem) :
    ∃ A B κ, A.Sublist ps ∧ B.Sublist ps ∧ A.length ≤ 40 ∧ B.length ≤ 40 ∧ callI defs k F_w_dealt_k [.t (.scr ns), .t (plT ps)] μ = .ok (.ref (μ.length + 2)) (μ ++ (plC A :: plC B :: outC μ :: κ)) := by
  obtain ⟨k, rfl, hk⟩ := callI_at (defs := defs) (f := 0) hk
  rw [u_w_dealt_k, b_w_dealt_k]
  obtain ⟨env', μ', e2, A, B, κ, x4, x5, x6, hA, hB, lA, lB, ⟨x3, rfl⟩, rfl⟩ := for_run (tg := .nm 3) (b := fun env => evSs (callI defs k) L_w_dealt_k_1 env) (w := []) (fun (i : Nat) => D.t (.int (0 + (i : Int)))) (List.range ps.length)
    (fun pre env μ' => ∃ (A B : PL) (κ : Mem) (x4 x5 x6 : Option D), A.Sublist (ps.take pre.length) ∧ B.Sublist (ps.take pre.length) ∧ A.length ≤ 40 ∧ B.length ≤ 40 ∧ (∃ x3, env = [some (.t (.scr ns)), some (.t (plT ps)), some (.ref (μ.length + 2)), x3, x4, x5, x6]) ∧ μ' = μ ++ (plC A :: plC B :: outC μ :: κ))
    (env := [some (.t (.scr ns)), some (.t (plT ps)), some (.ref (μ.length + 2)), none, none, none, none]) (μ := μ ++ [plC [], plC [], outC μ])
    ⟨[], [], [], none, none, none, List.nil_sublist _, List.nil_sublist _, by simp, by simp, ⟨none, rfl⟩, rfl⟩ (fun _ _ _ _ => wok_nil _) (fun pre i post env μ' hx hp => by
      obtain ⟨A, B, κ, x4, x5, x6, hA, hB, lA, lB, ⟨x3, rfl⟩, rfl⟩ := hp
      obtain ⟨hi, hi2⟩ := rng_at hx
      subst hi
      obtain ⟨M, hM⟩ : ∃ M, μ ++ (plC A :: plC B :: outC μ :: κ) = M := ⟨_, rfl⟩
      obtain ⟨s0, e0⟩ := c_w_begun_c (k := k) (by omega) ns hn (0 + (pre.length : Int) + 1) (by omega) M
      obtain ⟨j, s1, hj0, hj1, e1⟩ := c_w_take (k := k) (by omega) M s0 2 [] (by decide) (by decide)
      obtain ⟨c, s2, hc0, hc1, e2⟩ := c_w_take (k := k) (by omega) M s1 30 [] (by decide) (by decide)
      obtain ⟨A', B', y6, lA', lB', xA, xB, e3⟩ := dl_inner (k := k) (.t (.scr ns)) hi2 (some (.ref M.length)) (some (.t (.int j))) x6 (j := j) (by omega) (c == 7) μ (κ ++ [stC s2]) lA lB
      have hM2 : M ++ [stC s2] = μ ++ (plC A :: plC B :: outC μ :: (κ ++ [stC s2])) := by rw [← hM]; simp
      rw [← hM2] at e3
      refine ⟨[some (.t (.scr ns)), some (.t (plT ps)), some (.ref (μ.length + 2)), some (.t (.int (0 + (pre.length : Int)))), x4, x5, x6], rfl, [some (.t (.scr ns)), some (.t (plT ps)), some (.ref (μ.length + 2)), some (.t (.int (0 + (pre.length : Int)))), some (.ref M.length), some (.t (.int j)), y6], _, ?_, A', B', κ ++ [stC s2], some (.ref M.length), some (.t (.int j)), y6, ?_, ?_, lA', lB', ⟨_, rfl⟩, rfl⟩
      · rw [L_w_dealt_k_1, hM]
        have ad : ∀ i j : Int, ∀ μ, binD .add (.t (.int i)) (.t (.int j)) μ = .ok (.t (.int (i + j))) μ := fun i j μ => by simp only [binD, bI_add]
        have sb : ∀ i j : Int, ∀ μ, binD .sub (.t (.int i)) (.t (.int j)) μ = .ok (.t (.int (i - j))) μ := fun i j μ => by simp only [binD, bI_sub]
        have eq : ∀ i j : Int, ∀ μ, cmpD .eq (.t (.int i)) (.t (.int j)) μ = .ok (.t (.bl (i == j))) μ := fun i j μ => rfl
        have mk : ∀ i : Int, ∀ μ, mkL true [.t (.int i)] μ = .ok (.t (.lst [.int i])) μ := fun i μ => rfl
        have it : ∀ b : Bool, ∀ μ, bfnD true .int1 [.t (.bl b)] μ = .ok (.t (.int (if b = true then 1 else 0))) μ := fun b μ => rfl
        have ml : ∀ b : Bool, ∀ μ, binD .mul (.t (.lst [.int (1 - j)])) (.t (.int (if b = true then 1 else 0))) μ = .ok (.t (.lst (if b = true then [.int (1 - j)] else []))) μ := fun b μ => by
          cases b <;> rfl
        have al : ∀ b : Bool, ∀ μ, binD .add (.t (.lst [.int j])) (.t (.lst (if b = true then [.int (1 - j)] else []))) μ = .ok (.t (.lst (if b = true then [.int j, .int (1 - j)] else [.int j]))) μ := fun b μ => by
          cases b <;> rfl
        have ls : ∀ b : Bool, (if b = true then [T.int j, .int (1 - j)] else [.int j]).map D.t = (if b = true then [D.t (.int j), .t (.int (1 - j))] else [.t (.int j)]) := fun b => by cases b <;> rfl
        clear hx hA hB xA xB hM hM2
        simp only [evSs, evS, evE, evEs, evI, bnd_ap, pur_ap, lift_ap, outO_ap, andThen_ap, asgT, List.getElem?_cons_zero, List.getElem?_cons_succ, List.set_cons_zero, List.set_cons_succ, ad, sb, e0, e1, e2, eq, mk, it, ml, al, lO_lst, wL_t, ls, e3]
      · rw [List.length_append, List.length_singleton, ← List.take_append_getElem hi2]
        exact xA.sub hA
      · rw [List.length_append, List.length_singleton, ← List.take_append_getElem hi2]
        exact xB.sub hB)
  refine ⟨A, B, κ, hA.trans (List.take_sublist _ _), hB.trans (List.take_sublist _ _), lA, lB, ?_⟩
  rw [← rngD_map] at e2
  have m1 : mkL false [] μ = .ok (.ref μ.length) (μ ++ [plC []]) := mkL_c _ _ (Nat.zero_le _)
  have m2 : mkL false [] (μ ++ [plC []]) = .ok (.ref (μ.length + 1)) (μ ++ [plC [], plC []]) := by
    rw [mkL_c _ _ (Nat.zero_le _)]
    simp
  have m3 : mkL false [.ref μ.length, .ref (μ.length + 1)] (μ ++ [plC [], plC []]) = .ok (.ref (μ.length + 2)) (μ ++ [plC [], plC [], outC μ]) := by
    rw [mkL_c _ _ (by simp [sizeLine_eq])]
    simp
  have ln : ∀ μ, bfnD true .len [.t (plT ps)] μ = .ok (.t (.int (ps.length : Nat))) μ := fun μ => by simp only [bfnD, plT, lO_lst, List.length_map]
  have rg : ∀ μ, rngM0 (ps.length : Int) μ = .ok (rngD 0 ps.length, []) μ := fun μ => by
    have := rngM0_ok (ps.length : Int) μ (by omega) (by omega)
    rwa [Int.toNat_natCast] at this
  have lk := leave_k μ (plC A :: plC B :: outC μ :: κ) (.ref (μ.length + 2))
  clear hA hB
  generalize plT ps = P at *
  simp only [evSs, evS, evE, evEs, evI, bnd_ap, pur_ap, lift_ap, outO_ap, andThen_ap, asgT, toI, List.getElem?_cons_zero, List.getElem?_cons_succ, List.set_cons_zero, List.set_cons_succ, m1, m2, m3, ln, rg, e2, fin, lk]
/-! ### one price perhaps so dear -/
abbrev memD7 (s : St) (A B : PL) (κ : Mem) : Mem := stC s :: plC A :: plC B :: .lst [.ref 1, .ref 2] :: κ
theorem cellT_pl (A : PL) : cellT (plC A) = true := by
  simp [cellT, isT]
theorem leave_m (s s' : St) (A B A' B' : PL) (κ : Mem) (t : T) : leave .frz (memD7 s A B κ) (.t t) (memD7 s' A' B' κ) = .ok (.t t) (memD7 s' A' B' κ) := by
  have hb : OkBack (memD7 s A B κ) (memD7 s' A' B' κ) := ⟨by simp, fun c _ => match c with
    | 0 => .inr ⟨stC s', rfl, rfl⟩
    | 1 => .inr ⟨plC A', rfl, cellT_pl A'⟩
    | 2 => .inr ⟨plC B', rfl, cellT_pl B'⟩
    | c + 3 => .inl rfl⟩
  have ht : (memD7 s' A' B' κ).take (memD7 s A B κ).length = memD7 s' A' B' κ := List.take_of_length_le (by simp)
  unfold leave
  rw [if_pos hb]
  simp only [frzD, ht]
theorem idx_ok {n : Nat} {i : Int} (h0 : 0 ≤ i) (h1 : i < (n : Int)) : idx n i = some i.toNat := by
  unfold idx
  rw [if_pos h0, if_pos h1]
theorem sumN_set : ∀ (A : PL) (i : Nat) (h : i < A.length) (q : Int × Int), sumN (A.set i q) = sumN A - (A[i]).2 + q.2
  | a :: A, 0, _, q => by simp [sumN]; omega
  | a :: A, i + 1, h, q => by
    have ih := sumN_set A i (by simpa using h) q
    simp only [List.set_cons_succ, List.getElem_cons_succ, sumN, List.map_cons, List.sum_cons] at ih ⊢
    omega
theorem sumN_ge (A : PL) (h : ∀ p ∈ A, 1 ≤ p.2) : (A.length : Int) ≤ sumN A := by
  induction A with
  | nil => simp [sumN]
  | cons a A ih =>
    have h1 := ih fun p hp => h p (by simp [hp])
    have h2 := h a (by simp)
    simp only [sumN, List.map_cons, List.sum_cons, List.length_cons] at h1 ⊢
    omega
theorem sumN_le (A : PL) (h : ∀ p ∈ A, p.2 ≤ 1000000000) : sumN A ≤ 1000000000 * (A.length : Int) := by
  induction A with
  | nil => simp [sumN]
  | cons a A ih =>
    have h1 := ih fun p hp => h p (by simp [hp])
    have h2 := h a (by simp)
    simp only [sumN, List.map_cons, List.sum_cons, List.length_cons] at h1 ⊢
    omega
/-- a list whose numbers stay, of prices from 1 on and not too dear -/
structure Dr (A A' : PL) : Prop where
  f : A'.map (·.1) = A.map (·.1)
  p : ∀ q ∈ A', 1 ≤ q.2
  s : sumN A' ≤ 1000000000000
theorem Dr.same {A : PL} (hb : PrB A) (hl : A.length ≤ 40) : Dr A A := ⟨rfl, fun q hq => (hb q hq).1, by
  have := sumN_le A fun p hp => (hb p hp).2
  omega⟩
theorem Dr.put {A B : PL} (hA : PrB A) (hB : PrB B) (lA : A.length ≤ 40) (lB : B.length ≤ 40) (hB0 : B ≠ []) {i : Nat} (hi : i < A.length) {t : Int} (t0 : 0 ≤ t) (t2 : t < 3) : Dr A (A.set i (A[i].1, 1000000000001 - t - (sumN A + sumN B) + A[i].2)) := by
  have sA := sumN_le A fun p hp => (hA p hp).2
  have sB := sumN_le B fun p hp => (hB p hp).2
  have gB := sumN_ge B fun p hp => (hB p hp).1
  have l0 : 0 < B.length := List.length_pos_iff.mpr hB0
  have hi2 := hA _ (List.getElem_mem hi)
  refine ⟨?_, fun q hq => ?_, ?_⟩
  · rw [List.map_set]
    apply List.ext_getElem
    · simp
    · intro j h1 h2
      rw [List.getElem_set]
      split
      · rename_i e
        subst e
        rw [List.getElem_map]
      · rfl
  · rcases List.mem_or_eq_of_mem_set hq with h | rfl
    · exact (hA q h).1
    · dsimp only
      omega
  · rw [sumN_set A i hi]
    dsimp only
    omega
theorem c_w_dearer {k : Nat} (hk : 2 ≤ k) (s : St) {A B : PL} (κ : Mem) (hA : PrB A) (hB : PrB B) (lA : A.length ≤ 40) (lB : B.length ≤ 40) :
    ∃ A' B' s', Dr A A' ∧ Dr B B' ∧ callI defs k F_w_dearer [.ref 0, .ref 3] (memD7 s A B κ) = .ok (.t .non) (memD7 s' A' B' κ) := by
  obtain ⟨k, rfl, hk⟩ := callI_at (defs := defs) (f := 0) hk
  rw [u_w_dearer, b_w_dearer]
  have tk : ∀ (s : St) (m : Int), 0 < m → m < 1073741824 → ∃ d s', 0 ≤ d ∧ d < m ∧ callI defs k F_w_take [.ref 0, .t (.int m)] (memD7 s A B κ) = .ok (.t (.int d)) (memD7 s' A B κ) := fun s m h0 h1 => c_w_take (k := k) (by omega) [] s m (plC A :: plC B :: .lst [.ref 1, .ref 2] :: κ) h0 h1
  have i0 : ∀ s, ixD (.ref 3) (.t (.int 0)) (memD7 s A B κ) = .ok (.ref 1) (memD7 s A B κ) := fun s => ix_cell (ds := [.ref 1, .ref 2]) rfl rfl
  have i1 : ∀ s, ixD (.ref 3) (.t (.int 1)) (memD7 s A B κ) = .ok (.ref 2) (memD7 s A B κ) := fun s => ix_cell (ds := [.ref 1, .ref 2]) rfl rfl
  have lt1 : ∀ s, LT (memD7 s A B κ) (.ref 1) (A.map pT) := fun s => .cel rfl
  have lt2 : ∀ s, LT (memD7 s A B κ) (.ref 2) (B.map pT) := fun s => .cel rfl
  have ad1 := lt_add (lt1 s) (lt2 s) (by omega)
  have ei2 : ∀ l : PL, iT (l.map (·.2)) = T.lst (l.map fun p => T.int p.2) := fun l => by rw [iT, List.map_map]; rfl
  have mp : ∀ ps : PL, (ps.map pT).map D.t = ps.map fun p => D.t (pT p) := fun ps => by rw [List.map_map]; rfl
  have e1 : evE (callI defs k) C_w_dearer_0 [some (.ref 0), some (.ref 3), none, none, none, none, none] (memD7 s A B κ) = .ok (.t (iT ((A ++ B).map (·.2)))) (memD7 s A B κ) := by
    have := ev_map (F := callI defs k) (own := [("_law_place", 3), ("_law_price", 4)]) (tg := .tp [.nm 3, .nm 4]) (it := .val (.bin .add (.ix (.var 1) (.cst (.int 0))) (.ix (.var 1) (.cst (.int 1))))) (e := .var 4) (env := [some (.ref 0), some (.ref 3), none, none, none, none, none]) (μ := memD7 s A B κ) (w := []) (fun p : Int × Int => D.t (pT p)) (A ++ B) (fun p => T.int p.2) (by
      have j0 := i0 s
      have j1 := i1 s
      simp only [evI, evE, bnd_ap, pur_ap, List.getElem?_cons_zero, List.getElem?_cons_succ, j0, j1, ad1, plT, lO_lst, wL_t, mp]) (by rw [sizeLine_eq, List.length_append]; omega) (wok_nil _) (fun x hx => ⟨_, rfl, rfl⟩)
    rw [← ei2] at this
    exact this
  have sm : ∀ μ, bfnD true .sum [.t (iT ((A ++ B).map (·.2)))] μ = .ok (.t (.int (sumN A + sumN B))) μ := fun μ => by
    have h : toIs (((A ++ B).map (·.2)).map fun n => D.t (.int n)) = some ((A ++ B).map (·.2)) := toIs_of _
    simp only [bfnD, iT, lO_lst, ints_map, Option.bind_some, h]
    have : ((A ++ B).map (·.2)).sum = sumN (A ++ B) := rfl
    rw [this, sumN_app]
  have gt : ∀ i j : Int, ∀ μ, cmpD .gt (.t (.int i)) (.t (.int j)) μ = .ok (.t (.bl (decide (j < i)))) μ := fun i j μ => rfl
  have z : ∀ μ, mkL true [] μ = .ok (.t (.lst [])) μ := fun μ => mkL_t [] μ (Nat.zero_le _)
  obtain ⟨d1, s1, d10, d13, e2⟩ := tk s 3 (by decide) (by decide)
  have n1 := pairs_isnil (lt1 s1)
  have n2 := pairs_isnil (lt2 s1)
  have j0 := i0 s1
  have j1 := i1 s1
  have q0 : ∀ b, (decide (0 < d1) || (A.isEmpty || B.isEmpty)) = b → evE (callI defs k) (E.or (.cmp .gt (.call F_w_take (.cons (.var 0) (.cons (.cst (.int 3)) .nil))) (.cst (.int 0))) (.or (.cmp .eq (.ix (.var 1) (.cst (.int 0))) (.lst true .nil)) (.cmp .eq (.ix (.var 1) (.cst (.int 1))) (.lst true .nil)))) [some (.ref 0), some (.ref 3), some (.t (.int (sumN A + sumN B))), none, none, none, none] (memD7 s A B κ) = .ok (.t (.bl b)) (memD7 s1 A B κ) := fun b hb => by
    subst hb
    cases h1 : decide (0 < d1) with
    | true => simp only [evE, evEs, bnd_ap, pur_ap, List.getElem?_cons_zero, toB_ap, ite_ap, e2, gt, h1, if_true, Bool.true_or]
    | false =>
      cases h2 : A.isEmpty with
      | true => simp only [evE, evEs, bnd_ap, pur_ap, List.getElem?_cons_zero, List.getElem?_cons_succ, toB_ap, ite_ap, e2, gt, h1, j0, z, n1, h2, Bool.false_eq_true, if_false, if_true, Bool.true_or, Bool.false_or]
      | false => simp only [evE, evEs, bnd_ap, pur_ap, List.getElem?_cons_zero, List.getElem?_cons_succ, toB_ap, ite_ap, e2, gt, h1, j0, j1, z, n1, n2, h2, Bool.false_eq_true, if_false, if_true, Bool.true_or, Bool.false_or]
  generalize hQ : (E.or (.cmp .gt (.call F_w_take (.cons (.var 0) (.cons (.cst (.int 3)) .nil))) (.cst (.int 0))) (.or (.cmp .eq (.ix (.var 1) (.cst (.int 0))) (.lst true .nil)) (.cmp .eq (.ix (.var 1) (.cst (.int 1))) (.lst true .nil)))) = Q at *
  by_cases hb : (decide (0 < d1) || (A.isEmpty || B.isEmpty)) = true
  · have e3 := q0 _ hb
    refine ⟨A, B, s1, .same hA lA, .same hB lB, ?_⟩
    have lv := leave_m s s1 A B A B κ .non
    clear n1 n2 j0 j1 lt1 lt2 i0 i1 q0 hQ
    simp only [evSs, evS, evE, evEs, bnd_ap, pur_ap, lift_ap, outO_ap, andThen_ap, ite_ap, ite_apO, toB_ap, asgT, List.getElem?_cons_zero, List.getElem?_cons_succ, List.set_cons_zero, List.set_cons_succ, e1, sm, e3, if_true, fin, lv]
  · rw [Bool.not_eq_true] at hb
    have e3 := q0 _ hb
    rw [Bool.or_eq_false_iff, Bool.or_eq_false_iff] at hb
    have hA0 : A ≠ [] := fun e => by rw [e] at hb; simp at hb
    have hB0 : B ≠ [] := fun e => by rw [e] at hb; simp at hb
    have lA0 : 0 < A.length := List.length_pos_iff.mpr hA0
    have lB0 : 0 < B.length := List.length_pos_iff.mpr hB0
    obtain ⟨d2, s2, d20, d22, e4⟩ := tk s1 2 (by decide) (by decide)
    have ad : ∀ i j : Int, ∀ μ, binD .add (.t (.int i)) (.t (.int j)) μ = .ok (.t (.int (i + j))) μ := fun i j μ => by simp only [binD, bI_add]
    have sb : ∀ i j : Int, ∀ μ, binD .sub (.t (.int i)) (.t (.int j)) μ = .ok (.t (.int (i - j))) μ := fun i j μ => by simp only [binD, bI_sub]
    have pw : ∀ μ, binD .pow (.t (.int 10)) (.t (.int 12)) μ = .ok (.t (.int 1000000000000)) μ := fun μ => by
      simp only [binD, bI_p12]
    have p0 : ∀ p : Int × Int, ∀ μ, ixD (.t (pT p)) (.t (.int 0)) μ = .ok (.t (.int p.1)) μ := fun p μ => rfl
    have p1 : ∀ p : Int × Int, ∀ μ, ixD (.t (pT p)) (.t (.int 1)) μ = .ok (.t (.int p.2)) μ := fun p μ => rfl
    have mt : ∀ a b : Int, ∀ μ, mkTup [.t (.int a), .t (.int b)] μ = .ok (.t (pT (a, b))) μ := fun a b μ => rfl
    have w12 : (1000000000000 : Int) + 1 = 1000000000001 := rfl
    have hd2 : d2 = 0 ∨ d2 = 1 := by omega
    rcases hd2 with rfl | rfl
    · have j2 := i0 s2
      have ln := (lt1 s2).len
      rw [List.length_map] at ln
      obtain ⟨a, s3, a0, a1, e5⟩ := tk s2 (A.length : Int) (by omega) (by omega)
      obtain ⟨t, s4, t0, t2, e6⟩ := tk s3 3 (by decide) (by decide)
      have ha : a.toNat < A.length := by omega
      have g : ∀ s, ixD (.ref 1) (.t (.int a)) (memD7 s A B κ) = .ok (.t (pT A[a.toNat])) (memD7 s A B κ) := fun s => ix_cell (ds := (A.map pT).map D.t) rfl (by
        rw [List.length_map, List.length_map, idx_ok a0 a1, Option.bind_some, pl_at ha]
        rfl)
      refine ⟨A.set a.toNat (A[a.toNat].1, 1000000000001 - t - (sumN A + sumN B) + A[a.toNat].2), B, s4, .put hA hB lA lB hB0 ha t0 t2, .same hB lB, ?_⟩
      have st : setD (.ref 1) (.t (.int a)) (.t (pT (A[a.toNat].1, 1000000000001 - t - (sumN A + sumN B) + A[a.toNat].2))) (memD7 s4 A B κ) = some (memD7 s4 (A.set a.toNat (A[a.toNat].1, 1000000000001 - t - (sumN A + sumN B) + A[a.toNat].2)) B κ) := by
        have h1 : (memD7 s4 A B κ)[1]? = some (plC A) := rfl
        have h2 : idx ((A.map pT).map D.t).length a = some a.toNat := by rw [List.length_map, List.length_map]; exact idx_ok a0 a1
        simp only [setD, h1, toI, h2, plC, memD7, List.set_cons_succ, List.set_cons_zero, List.map_set]
      have lv := leave_m s s4 A B (A.set a.toNat (A[a.toNat].1, 1000000000001 - t - (sumN A + sumN B) + A[a.toNat].2)) B κ .non
      clear n1 n2 j0 j1 lt1 lt2 i0 i1 q0 hQ
      generalize (A.set a.toNat (A[a.toNat].1, 1000000000001 - t - (sumN A + sumN B) + A[a.toNat].2)) = AA at *
      simp only [evSs, evS, evE, evEs, bnd_ap, pur_ap, lift_ap, outO_ap, andThen_ap, ite_ap, ite_apO, toB_ap, asgT, List.getElem?_cons_zero, List.getElem?_cons_succ, List.set_cons_zero, List.set_cons_succ, e1, sm, e3, Bool.false_eq_true, if_false, e4, j2, ln, e5, g, p0, p1, pw, ad, w12, e6, sb, mt, st, fin, lv]
    · have j2 := i1 s2
      have ln := (lt2 s2).len
      rw [List.length_map] at ln
      obtain ⟨a, s3, a0, a1, e5⟩ := tk s2 (B.length : Int) (by omega) (by omega)
      obtain ⟨t, s4, t0, t2, e6⟩ := tk s3 3 (by decide) (by decide)
      have ha : a.toNat < B.length := by omega
      have g : ∀ s, ixD (.ref 2) (.t (.int a)) (memD7 s A B κ) = .ok (.t (pT B[a.toNat])) (memD7 s A B κ) := fun s => ix_cell (ds := (B.map pT).map D.t) rfl (by
        rw [List.length_map, List.length_map, idx_ok a0 a1, Option.bind_some, pl_at ha]
        rfl)
      have hput := Dr.put hB hA lB lA hA0 ha t0 t2
      rw [show sumN B + sumN A = sumN A + sumN B from Int.add_comm _ _] at hput
      refine ⟨A, B.set a.toNat (B[a.toNat].1, 1000000000001 - t - (sumN A + sumN B) + B[a.toNat].2), s4, .same hA lA, hput, ?_⟩
      have st : setD (.ref 2) (.t (.int a)) (.t (pT (B[a.toNat].1, 1000000000001 - t - (sumN A + sumN B) + B[a.toNat].2))) (memD7 s4 A B κ) = some (memD7 s4 A (B.set a.toNat (B[a.toNat].1, 1000000000001 - t - (sumN A + sumN B) + B[a.toNat].2)) κ) := by
        have h1 : (memD7 s4 A B κ)[2]? = some (plC B) := rfl
        have h2 : idx ((B.map pT).map D.t).length a = some a.toNat := by rw [List.length_map, List.length_map]; exact idx_ok a0 a1
        simp only [setD, h1, toI, h2, plC, memD7, List.set_cons_succ, List.set_cons_zero, List.map_set]
      have lv := leave_m s s4 A B A (B.set a.toNat (B[a.toNat].1, 1000000000001 - t - (sumN A + sumN B) + B[a.toNat].2)) κ .non
      clear n1 n2 j0 j1 lt1 lt2 i0 i1 q0 hQ hput
      generalize (B.set a.toNat (B[a.toNat].1, 1000000000001 - t - (sumN A + sumN B) + B[a.toNat].2)) = AA at *
      simp only [evSs, evS, evE, evEs, bnd_ap, pur_ap, lift_ap, outO_ap, andThen_ap, ite_ap, ite_apO, toB_ap, asgT, List.getElem?_cons_zero, List.getElem?_cons_succ, List.set_cons_zero, List.set_cons_succ, e1, sm, e3, Bool.false_eq_true, if_false, e4, j2, ln, e5, g, p0, p1, pw, ad, w12, e6, sb, mt, st, fin, lv]
/-- what _law_same says of a thing and itself -/
def SameK (k : Nat) (t : T) : Prop := ∀ μ : Mem, callI defs k F_w_same [.t t, .t t] μ = .ok (.t (.bl true)) μ
theorem same_int {k : Nat} (hk : 1 ≤ k) (i : Int) : SameK k (.int i) := fun μ => by
  obtain ⟨k, rfl, hk⟩ := callI_at (defs := defs) (f := 0) hk
  rw [u_w_same, b_w_same]
  walk_at "mi"
theorem toBs_true (n : Nat) : toBs ((List.replicate n (T.bl true)).map D.t) = some (List.replicate n true) := by
  have := toBs_of (List.replicate n true)
  rwa [List.map_replicate] at this
theorem all_true (n : Nat) : (List.replicate n true).all id = true := by
  rw [List.all_eq_true]
  intro x hx
  rw [List.eq_of_mem_replicate hx]
  rfl
theorem zip_self (ts : List T) : List.zipWith pairD (ts.map D.t) (ts.map D.t) = ts.map fun t => D.t (.tup [t, t]) := by
  rw [zipD_t]
  induction ts with
  | nil => rfl
  | cons t r ih => simp only [List.zip_cons_cons, List.map_cons, ih]
theorem same_seq {k : Nat} {ts : List T} (h : ∀ t ∈ ts, SameK k t) (hl : ts.length ≤ 16777216) {a b : D} {μ : Mem} {w : Watch} (hz : evI (callI defs k) (.zip (.var 0) (.var 1)) [some a, some b, none, none] μ = .ok (ts.map fun t => D.t (.tup [t, t]), w) μ) (hw : WOk μ w) :
    evE (callI defs k) C_w_same_0 [some a, some b, none, none] μ = .ok (.t (.lst ((List.replicate ts.length (T.bl true))))) μ := by
  have := ev_map (own := [("_law_one", 2), ("_law_other", 3)]) (tg := .tp [.nm 2, .nm 3]) (e := .call F_w_same (.cons (.var 2) (.cons (.var 3) .nil))) (fun t => D.t (.tup [t, t])) ts (fun _ => T.bl true) hz (by rw [sizeLine_eq]; exact hl) hw (fun t ht => ⟨_, rfl, by
    have := h t ht μ
    walk_at "mi"⟩)
  rw [List.map_const'] at this
  exact this
theorem same_lst {k : Nat} {ts : List T} (h : ∀ t ∈ ts, SameK k t) (hl : ts.length ≤ 16777216) : SameK (k + 1) (.lst ts) := fun μ => by
  rw [u_w_same, b_w_same]
  have e := same_seq (a := .t (.lst ts)) (b := .t (.lst ts)) (μ := μ) (w := []) h hl (by have := zip_self ts; walk_at "mi") (wok_nil _)
  have e1 := toBs_true ts.length
  have e2 := all_true ts.length
  clear h
  walk_at "mi"
theorem same_tup {k : Nat} {ts : List T} (h : ∀ t ∈ ts, SameK k t) (hl : ts.length ≤ 16777216) : SameK (k + 1) (.tup ts) := fun μ => by
  rw [u_w_same, b_w_same]
  have e := same_seq (a := .t (.tup ts)) (b := .t (.tup ts)) (μ := μ) (w := []) h hl (by have := zip_self ts; walk_at "mi") (wok_nil _)
  have e1 := toBs_true ts.length
  have e2 := all_true ts.length
  clear h
  walk_at "mi"
/-- a list in a cell, and the same list -/
theorem same_cell {k : Nat} {ts : List T} (h : ∀ t ∈ ts, SameK k t) (hl : ts.length ≤ 16777216) {c : Nat} {μ : Mem} (hc : μ[c]? = some (.lst (ts.map D.t))) : callI defs (k + 1) F_w_same [.ref c, .t (.lst ts)] μ = .ok (.t (.bl true)) μ := by
  rw [u_w_same, b_w_same]
  have e := same_seq (a := .ref c) (b := .t (.lst ts)) (μ := μ) (w := [(c, ts.map D.t)]) h hl (by have := zip_self ts; walk_at "mi") (fun p hp => by
    rw [List.mem_singleton] at hp
    rw [hp]
    exact hc)
  have e1 := toBs_true ts.length
  have e2 := all_true ts.length
  clear h
  walk_at "mi"
theorem SameK.mono1 {k : Nat} {t : T} (h : ∀ k', k ≤ k' → SameK k' t) : SameK k t := h k (Nat.le_refl _)
theorem same_ints {k : Nat} (hk : 2 ≤ k) (ns : List Int) (hl : ns.length ≤ 16777216) : SameK k (iT ns) := by
  obtain ⟨k, rfl, hk⟩ := callI_at (defs := defs) (f := 0) hk
  exact same_lst (fun t ht => by obtain ⟨i, _, rfl⟩ := List.mem_map.mp ht; exact same_int (by omega) i) (by simpa using hl)
theorem same_pT {k : Nat} (hk : 2 ≤ k) (p : Int × Int) : SameK k (pT p) := by
  obtain ⟨k, rfl, hk⟩ := callI_at (defs := defs) (f := 0) hk
  refine same_tup (fun t ht => ?_) (by simp)
  simp only [List.mem_cons, List.not_mem_nil, or_false] at ht
  rcases ht with rfl | rfl <;> exact same_int (by omega) _
theorem same_plT {k : Nat} (hk : 3 ≤ k) (ps : PL) (hl : ps.length ≤ 16777216) : SameK k (plT ps) := by
  obtain ⟨k, rfl, hk⟩ := callI_at (defs := defs) (f := 0) hk
  exact same_lst (fun t ht => by obtain ⟨p, _, rfl⟩ := List.mem_map.mp ht; exact same_pT (by omega) p) (by simpa using hl)
theorem same_webT {k : Nat} (hk : 4 ≤ k) (ps ts : PL) (hl : ps.length ≤ 16777216) (hl' : ts.length ≤ 16777216) : SameK k (webT ps ts) := by
  obtain ⟨k, rfl, hk⟩ := callI_at (defs := defs) (f := 0) hk
  refine same_tup (fun t ht => ?_) (by simp)
  simp only [List.mem_cons, List.not_mem_nil, or_false] at ht
  rcases ht with rfl | rfl
  · exact same_plT (by omega) ps hl
  · exact same_plT (by omega) ts hl'
/-- two cells with the same list -/
theorem same_cells {k : Nat} {ts : List T} (h : ∀ t ∈ ts, SameK k t) (hl : ts.length ≤ 16777216) {c c' : Nat} {μ : Mem} (hc : μ[c]? = some (.lst (ts.map D.t))) (hc' : μ[c']? = some (.lst (ts.map D.t))) : callI defs (k + 1) F_w_same [.ref c, .ref c'] μ = .ok (.t (.bl true)) μ := by
  rw [u_w_same, b_w_same]
  have e := same_seq (a := .ref c) (b := .ref c') (μ := μ) (w := [(c, ts.map D.t), (c', ts.map D.t)]) h hl (by have := zip_self ts; walk_at "mi") (fun p hp => by
    rcases List.mem_cons.mp hp with rfl | hp
    · exact hc
    · rw [List.mem_singleton] at hp
      rw [hp]
      exact hc')
  have e1 := toBs_true ts.length
  have e2 := all_true ts.length
  clear h
  walk_at "mi"
theorem same_cell2 {k : Nat} {ts : List T} (h : ∀ t ∈ ts, SameK k t) (hl : ts.length ≤ 16777216) {c : Nat} {μ : Mem} (hc : μ[c]? = some (.lst (ts.map D.t))) : callI defs (k + 1) F_w_same [.t (.lst ts), .ref c] μ = .ok (.t (.bl true)) μ := by
  rw [u_w_same, b_w_same]
  have e := same_seq (a := .t (.lst ts)) (b := .ref c) (μ := μ) (w := [(c, ts.map D.t)]) h hl (by have := zip_self ts; walk_at "mi") (fun p hp => by
    rw [List.mem_singleton] at hp
    rw [hp]
    exact hc)
  have e1 := toBs_true ts.length
  have e2 := all_true ts.length
  clear h
  walk_at "mi"
/-! ### _law_same of things with cells -/
theorem asg_pair (d e : D) (a b x2 x3 : Option D) : asgT (.tp [.nm 2, .nm 3]) (pairD d e) [a, b, x2, x3] = some [a, b, some d, some e] := by
  cases d <;> cases e <;> rfl
theorem all_rep (n : Nat) (μ : Mem) : bfnD true .all [.t (.lst (List.replicate n (T.bl true)))] μ = .ok (.t (.bl true)) μ := by
  simp only [bfnD, lO_lst, toBs_true n, Option.bind_some, all_true n]
theorem zip_pairs : ∀ (ds es : List D), List.zipWith pairD ds es = (ds.zip es).map fun p => pairD p.1 p.2
  | [], _ => rfl
  | _ :: _, [] => rfl
  | d :: ds, e :: es => by simp only [List.zipWith_cons_cons, List.zip_cons_cons, List.map_cons, zip_pairs ds es]
theorem same_zipG {k : Nat} {ds es : List D} {a b : D} {μ : Mem} {w : Watch} {n : Nat} (hl : ds.length = n) (hl2 : es.length = n) (hs : n ≤ 16777216) (h : ∀ p ∈ ds.zip es, callI defs k F_w_same [p.1, p.2] μ = .ok (.t (.bl true)) μ) (hz : evI (callI defs k) (.zip (.var 0) (.var 1)) [some a, some b, none, none] μ = .ok (List.zipWith pairD ds es, w) μ) (hw : WOk μ w) :
    evE (callI defs k) C_w_same_0 [some a, some b, none, none] μ = .ok (.t (.lst (List.replicate n (T.bl true)))) μ := by
  rw [zip_pairs] at hz
  have hlz : (ds.zip es).length = n := by rw [List.length_zip, hl, hl2, Nat.min_self]
  have := ev_map (own := [("_law_one", 2), ("_law_other", 3)]) (tg := .tp [.nm 2, .nm 3]) (e := .call F_w_same (.cons (.var 2) (.cons (.var 3) .nil))) (fun p : D × D => pairD p.1 p.2) (ds.zip es) (fun _ => T.bl true) hz (by rw [sizeLine_eq, hlz]; exact hs) hw (fun p hp => ⟨_, asg_pair p.1 p.2 (some a) (some b) none none, by
    have := h p hp
    simp only [evE, evEs, bnd_ap, pur_ap, List.getElem?_cons_zero, List.getElem?_cons_succ, this]⟩)
  rw [List.map_const', hlz] at this
  exact this
theorem same_cl {k : Nat} {a b : D} {μ : Mem} {n : Nat} (la : bfnD true .len [a] μ = .ok (.t (.int (n : Nat))) μ) (lb : bfnD true .len [b] μ = .ok (.t (.int (n : Nat))) μ) (e : evE (callI defs k) C_w_same_0 [some a, some b, none, none] μ = .ok (.t (.lst (List.replicate n (T.bl true)))) μ) (ht : (tyOf μ a = some .lst ∧ tyOf μ b = some .lst) ∨ (tyOf μ a = some .tup ∧ tyOf μ b = some .tup)) :
    callI defs (k + 1) F_w_same [a, b] μ = .ok (.t (.bl true)) μ := by
  rw [u_w_same, b_w_same]
  have e1 := all_rep n μ
  have lt := leave_t0 μ (.bl true)
  have ne : ∀ i : Int, cmpD .ne (.t (.int i)) (.t (.int i)) μ = .ok (.t (.bl false)) μ := fun i => by simp [cmpD, scalD]
  have nb : ∀ b : Bool, cmpD .ne (.t (.bl b)) (.t (.bl b)) μ = .ok (.t (.bl false)) μ := fun b => by simp [cmpD, scalD]
  rcases ht with ⟨ta, tb⟩ | ⟨ta, tb⟩
  · have i0 : isiD [.lst] a μ = .ok (.t (.bl true)) μ := by simp only [isiD, ta]; rfl
    have i1 : isiD [.lst] b μ = .ok (.t (.bl true)) μ := by simp only [isiD, tb]; rfl
    clear ta tb
    simp only [evSs, evS, evE, evEs, bnd_ap, pur_ap, lift_ap, outO_ap, andThen_ap, ite_ap, ite_apO, toB_ap, List.getElem?_cons_zero, List.getElem?_cons_succ, i0, i1, Bool.not_true, Bool.false_eq_true, if_true, if_false, la, lb, ne, nb, e, e1, fin, lt]
  · have i0 : isiD [.lst] a μ = .ok (.t (.bl false)) μ := by simp only [isiD, ta]; rfl
    have i1 : isiD [.lst] b μ = .ok (.t (.bl false)) μ := by simp only [isiD, tb]; rfl
    have i2 : isiD [.tup] a μ = .ok (.t (.bl true)) μ := by simp only [isiD, ta]; rfl
    have i3 : isiD [.tup] b μ = .ok (.t (.bl true)) μ := by simp only [isiD, tb]; rfl
    clear ta tb
    simp only [evSs, evS, evE, evEs, bnd_ap, pur_ap, lift_ap, outO_ap, andThen_ap, ite_ap, ite_apO, toB_ap, List.getElem?_cons_zero, List.getElem?_cons_succ, i0, i1, i2, i3, Bool.not_true, Bool.not_false, Bool.false_eq_true, if_true, if_false, la, lb, ne, nb, e, e1, fin, lt]
theorem same_bl {k : Nat} (hk : 1 ≤ k) (b : Bool) : SameK k (.bl b) := fun μ => by
  obtain ⟨k, rfl, hk⟩ := callI_at (defs := defs) (f := 0) hk
  rw [u_w_same, b_w_same]
  cases b <;> walk_at "mi"
/-- lists of pairs, in a cell or frozen -/
theorem same_LT {k : Nat} (hk : 3 ≤ k) {a b : D} {μ : Mem} {P : PL} (ha : LT μ a (P.map pT)) (hb : LT μ b (P.map pT)) (hl : P.length ≤ 10000) : callI defs k F_w_same [a, b] μ = .ok (.t (.bl true)) μ := by
  obtain ⟨k, rfl, hk⟩ := callI_at (defs := defs) (f := 0) hk
  have la := ha.len
  have lb := hb.len
  rw [List.length_map] at la lb
  refine same_cl la lb ?_ (.inl ⟨ha.ty, hb.ty⟩)
  have l1 := ha.lst
  have l2 := hb.lst
  refine same_zipG (ds := (P.map pT).map D.t) (es := (P.map pT).map D.t) (w := watchL a ((P.map pT).map D.t) ++ watchL b ((P.map pT).map D.t)) (by simp) (by simp) (by omega) (fun p hp => ?_) (by
    simp only [evI, evE, bnd_ap, List.getElem?_cons_zero, List.getElem?_cons_succ, l1, l2]) (fun p hp => by
      rcases List.mem_append.mp hp with h | h
      · exact ha.wat p h
      · exact hb.wat p h)
  have : ∀ L : List D, p ∈ L.zip L → p.1 = p.2 ∧ p.1 ∈ L := fun L hp => by
    obtain ⟨i, hi, e⟩ := List.mem_iff_getElem.mp hp
    rw [List.getElem_zip] at e
    subst e
    exact ⟨rfl, List.getElem_mem _⟩
  obtain ⟨e, hm⟩ := this _ hp
  obtain ⟨t, ht, e2⟩ := List.mem_map.mp hm
  obtain ⟨q, _, rfl⟩ := List.mem_map.mp ht
  rw [← e, ← e2]
  exact same_pT (by omega) q μ
/-- two pairs of things, each a tuple or a tuple with cells in it -/
theorem same_two {k : Nat} {a b a1 a2 b1 b2 : D} {μ : Mem} (ha : tupOf a = some [a1, a2]) (hb : tupOf b = some [b1, b2]) (na : lstOf μ a = none) (nb : lstOf μ b = none) (ta : tyOf μ a = some .tup) (tb : tyOf μ b = some .tup) (h1 : callI defs k F_w_same [a1, b1] μ = .ok (.t (.bl true)) μ) (h2 : callI defs k F_w_same [a2, b2] μ = .ok (.t (.bl true)) μ) : callI defs (k + 1) F_w_same [a, b] μ = .ok (.t (.bl true)) μ := by
  have ln : ∀ d : D, ∀ d1 d2, tupOf d = some [d1, d2] → lstOf μ d = none → bfnD true .len [d] μ = .ok (.t (.int (2 : Nat))) μ := fun d d1 d2 h hn => by
    cases d with
    | t x =>
      cases x with
      | str s => cases h
      | _ => simp only [bfnD, hn, h]; rfl
    | _ => simp only [bfnD, hn, h]; rfl
  refine same_cl (n := 2) (ln a a1 a2 ha na) (ln b b1 b2 hb nb) ?_ (.inr ⟨ta, tb⟩)
  refine same_zipG (ds := [a1, a2]) (es := [b1, b2]) (w := []) rfl rfl (by decide) (fun p hp => ?_) (by
    simp only [evI, evE, bnd_ap, List.getElem?_cons_zero, List.getElem?_cons_succ, na, nb, ha, hb]) (wok_nil _)
  simp only [List.zip_cons_cons, List.zip_nil_right, List.mem_cons, List.not_mem_nil, or_false] at hp
  rcases hp with rfl | rfl
  · exact h1
  · exact h2
/-- lists of two, in a cell or frozen -/
theorem same_two_l {k : Nat} {a b a1 a2 b1 b2 : D} {μ : Mem} (ha : lstOf μ a = some [a1, a2]) (hb : lstOf μ b = some [b1, b2]) (wa : WOk μ (watchL a [a1, a2])) (wb : WOk μ (watchL b [b1, b2])) (ta : tyOf μ a = some .lst) (tb : tyOf μ b = some .lst) (h1 : callI defs k F_w_same [a1, b1] μ = .ok (.t (.bl true)) μ) (h2 : callI defs k F_w_same [a2, b2] μ = .ok (.t (.bl true)) μ) : callI defs (k + 1) F_w_same [a, b] μ = .ok (.t (.bl true)) μ := by
  have ln : ∀ d : D, ∀ d1 d2, lstOf μ d = some [d1, d2] → bfnD true .len [d] μ = .ok (.t (.int (2 : Nat))) μ := fun d d1 d2 h => by
    cases d with
    | t x =>
      cases x with
      | str s => cases h
      | _ => simp only [bfnD, h]; rfl
    | _ => simp only [bfnD, h]; rfl
  refine same_cl (n := 2) (ln a a1 a2 ha) (ln b b1 b2 hb) ?_ (.inl ⟨ta, tb⟩)
  refine same_zipG (ds := [a1, a2]) (es := [b1, b2]) (w := watchL a [a1, a2] ++ watchL b [b1, b2]) rfl rfl (by decide) (fun p hp => ?_) (by
    simp only [evI, evE, bnd_ap, List.getElem?_cons_zero, List.getElem?_cons_succ, ha, hb]) (fun p hp => by
      rcases List.mem_append.mp hp with h | h
      · exact wa p h
      · exact wb p h)
  simp only [List.zip_cons_cons, List.zip_nil_right, List.mem_cons, List.not_mem_nil, or_false] at hp
  rcases hp with rfl | rfl
  · exact h1
  · exact h2
/-- webs whose lists are in cells or frozen -/
theorem same_web_d {k : Nat} (hk : 4 ≤ k) {a1 a2 b1 b2 : D} {a b : D} {μ : Mem} {P U : PL} (ha : tupOf a = some [a1, a2]) (hb : tupOf b = some [b1, b2]) (na : lstOf μ a = none) (nb : lstOf μ b = none) (ta : tyOf μ a = some .tup) (tb : tyOf μ b = some .tup) (h1 : LT μ a1 (P.map pT)) (h2 : LT μ a2 (U.map pT)) (g1 : LT μ b1 (P.map pT)) (g2 : LT μ b2 (U.map pT)) (n1 : P.length ≤ 10000) (n2 : U.length ≤ 10000) : callI defs k F_w_same [a, b] μ = .ok (.t (.bl true)) μ := by
  obtain ⟨k, rfl, hk⟩ := callI_at (defs := defs) (f := 0) hk
  exact same_two ha hb na nb ta tb (same_LT (by omega) h1 g1 n1) (same_LT (by omega) h2 g2 n2)
theorem same_dueV {k : Nat} (hk : 5 ≤ k) (P1 T1 P2 T2 : PL) (n1 : (P1 ++ P2).length ≤ 10000) (n2 : (T1 ++ T2).length ≤ 10000) : SameK k (dueV P1 T1 P2 T2) := by
  unfold dueV
  by_cases h : BadL P1 T1 P2 T2
  · rw [if_pos h]
    obtain ⟨k, rfl, hk⟩ := callI_at (defs := defs) (f := 0) hk
    exact same_lst (fun t ht => by
      simp only [List.mem_cons, List.not_mem_nil, or_false] at ht
      rcases ht with rfl | rfl <;> exact same_bl (by omega) _) (by simp)
  · rw [if_neg h]
    exact same_webT (by omega) _ _ (by rw [sortP_len]; omega) (by rw [sortP_len]; omega)
theorem leave_law (μ : Mem) (t : T) : leave .frz [] (.t t) μ = .ok (.t t) [] := by
  unfold leave
  rw [if_pos ⟨by simp, fun c hc => by simp at hc⟩]
  simp [frzD]
/-! ### the law -/
theorem RisB.bnd : ∀ {ps : PL} {l : Int}, RisB l ps → ∀ p ∈ ps, p.1 ≤ l + 23 * (ps.length : Int)
  | q :: r, l, h, p, hp => by
    have h2 := h.2.1
    rcases List.mem_cons.mp hp with rfl | hp
    · simp only [List.length_cons]; omega
    · have := RisB.bnd h.2.2 p hp
      simp only [List.length_cons]
      omega
theorem RisB.pair {ps : PL} {l : Int} (h : RisB l ps) : ps.Pairwise (fun a b => a.1 < b.1) :=
  List.pairwise_iff_getElem.mpr fun _ _ hi hj hij => h.lt hi hj hij
theorem dr_pair {A A' ps : PL} {l : Int} (hr : RisB l ps) (hA : A.Sublist ps) (d : Dr A A') : A'.Pairwise (fun a b => a.1 < b.1) := by
  have h1 : (A.map (·.1)).Pairwise (· < ·) := by rw [List.pairwise_map]; exact hr.pair.sublist hA
  rw [← d.f, List.pairwise_map] at h1
  exact h1
theorem dr_mem {A A' ps : PL} (hA : A.Sublist ps) (d : Dr A A') {p : Int × Int} (hp : p ∈ A') : ∃ q ∈ ps, q.1 = p.1 := by
  have h1 : p.1 ∈ A'.map (·.1) := List.mem_map_of_mem hp
  rw [d.f] at h1
  obtain ⟨q, hq, e⟩ := List.mem_map.mp h1
  exact ⟨q, hA.subset hq, e⟩
theorem dr_len {A A' : PL} (d : Dr A A') : A'.length = A.length := by
  have := congrArg List.length d.f
  simpa using this
theorem dr_web {A A' ps ts : PL} (hr : RisB (-1) ps) (hl : ps.length ≤ 43) (hA : A.Sublist ps) (lA : A.length ≤ 40) (d : Dr A A') (ht : TiOk (A'.map (·.1)) (-1, -1) ts) (hn : ts.length ≤ 63) : WebOk A' ts := by
  refine ⟨PlOk.of_sorted (dr_pair hr hA d) (fun p hp => ?_) (by have := d.s; omega), ht, by rw [dr_len d]; exact lA, by omega⟩
  obtain ⟨q, hq, e⟩ := dr_mem hA d hp
  have h1 := hr.pos q hq
  have h2 := hr.bnd q hq
  exact ⟨by omega, by omega, d.p p hp⟩
abbrev webD (c : Nat) (U : PL) : D := .tp [.ref c, .t (plT U)]
theorem c_webs {k : Nat} (hk : 3 ≤ k) (s : St) {A B : PL} (κ : Mem) (cr : Bool) (hA : A.Pairwise (fun a b => a.1 < b.1)) (hB : B.Pairwise (fun a b => a.1 < b.1)) (pA : ∀ p ∈ A, -1 < p.1) (pB : ∀ p ∈ B, -1 < p.1) (lA : A.length ≤ 40) (lB : B.length ≤ 40) (scr : Option D) :
    ∃ T1 T2 s', TiOk (A.map (·.1)) (-1, -1) T1 ∧ T1.length ≤ 63 ∧ TiOk (B.map (·.1)) (-1, -1) T2 ∧ T2.length ≤ 63 ∧ evE (callI defs k) C_law_1 [scr, some (.ref 0), some (.ref 3), some (.t (.bl cr)), none, none, none, none, none, none, none] (memD7 s A B κ) = .ok (.ref (κ.length + 4)) (memD7 s' A B (κ ++ [.lst [webD 1 T1, webD 2 T2]])) := by
  obtain ⟨T1, s1, t1, n1, e1⟩ := c_w_ties (k := k) hk [] s (plC A :: plC B :: .lst [.ref 1, .ref 2] :: κ) (d := .ref 1) (P := A) cr (.cel rfl) hA pA (by omega)
  obtain ⟨T2, s2, t2, n2, e2⟩ := c_w_ties (k := k) hk [] s1 (plC A :: plC B :: .lst [.ref 1, .ref 2] :: κ) (d := .ref 2) (P := B) cr (.cel rfl) hB pB (by omega)
  have e1 : callI defs k F_w_ties [.ref 0, .ref 1, .t (.bl cr)] (memD7 s A B κ) = .ok (.t (plT T1)) (memD7 s1 A B κ) := e1
  have e2 : callI defs k F_w_ties [.ref 0, .ref 2, .t (.bl cr)] (memD7 s1 A B κ) = .ok (.t (plT T2)) (memD7 s2 A B κ) := e2
  refine ⟨T1, T2, s2, t1, n1, t2, n2, ?_⟩
  have hi : evI (callI defs k) (.val (.var 2)) [scr, some (.ref 0), some (.ref 3), some (.t (.bl cr)), none, none, none, none, none, none, none] (memD7 s A B κ) = .ok ([.ref 1, .ref 2], [(3, [.ref 1, .ref 2])]) (memD7 s A B κ) := rfl
  have w : ∀ s, WOk (memD7 s A B κ) [(3, [.ref 1, .ref 2])] := fun s p hp => by
    rw [List.mem_singleton] at hp
    rw [hp]
    rfl
  have m1 : ∀ μ, mkTup [.ref 1, .t (plT T1)] μ = .ok (webD 1 T1) μ := fun μ => rfl
  have m2 : ∀ μ, mkTup [.ref 2, .t (plT T2)] μ = .ok (webD 2 T2) μ := fun μ => rfl
  have mk : mkL false [webD 1 T1, webD 2 T2] (memD7 s2 A B κ) = .ok (.ref (κ.length + 4)) (memD7 s2 A B (κ ++ [.lst [webD 1 T1, webD 2 T2]])) := by
    rw [mkL_c _ _ (by simp [sizeLine_eq])]
    simp
  have sz : ([.ref 1, .ref 2] : List D).length ≤ sizeLine := by rw [sizeLine_eq]; decide
  rw [C_law_1]
  have w0 := w s
  have w1 := w s1
  have w2 := w s2
  generalize memD7 s2 A B (κ ++ [.lst [webD 1 T1, webD 2 T2]]) = M3 at *
  generalize memD7 s A B κ = M0 at *
  generalize memD7 s1 A B κ = M1 at *
  generalize memD7 s2 A B κ = M2 at *
  generalize webD 1 T1 = W1 at *
  generalize webD 2 T2 = W2 at *
  rw [evE, bnd_ap, hi]
  simp only [if_pos sz, compLoop, if_pos w0, if_pos w1, if_pos w2, asgT, wipeD, List.map_cons, List.map_nil, List.set_cons_zero, List.set_cons_succ, evC, evE, evEs, bnd_ap, pur_ap, noEx, List.getElem?_cons_zero, List.getElem?_cons_succ, e1, e2, m1, m2, if_true, List.nil_append, List.cons_append, mk]
theorem law_pure : ∀ ns : List Int, ns.length ≤ 63 → ∃ μ, callI defs fuel F_law [.t (.scr ns)] [] = .ok (.t (.bl true)) μ := fun ns hn => by
  refine ⟨[], ?_⟩
  rw [show fuel = 39 + 1 from rfl, u_law, b_law]
  obtain ⟨s0, e1⟩ := c_w_begun_c (k := 39) (by decide) ns hn 0 (by omega) []
  obtain ⟨n, s1, hn0, hn1, e2⟩ := c_w_take (k := 39) (by decide) [] s0 44 [] (by decide) (by decide)
  obtain ⟨ps, s2, hr, hb, hpl, e3⟩ := c_w_places (k := 39) (by decide) [] s1 n [] hn0 (by omega)
  have hp43 : ps.length ≤ 43 := by omega
  obtain ⟨A0, B0, κ, sA, sB, lA, lB, e4⟩ := c_w_dealt (k := 39) (by decide) ns hn ps (by omega) [stC s2]
  have e4 : callI defs 39 F_w_dealt_k [.t (.scr ns), .t (plT ps)] [stC s2] = .ok (.ref 3) (memD7 s2 A0 B0 κ) := e4
  obtain ⟨A, B, s3, dA, dB, e5⟩ := c_w_dearer (k := 39) (by decide) s2 (A := A0) (B := B0) κ (fun p hp => hb p (sA.subset hp)) (fun p hp => hb p (sB.subset hp)) lA lB
  obtain ⟨c, s4, hc0, hc1, e6⟩ := c_w_take (k := 39) (by decide) [] s3 3 (plC A :: plC B :: .lst [.ref 1, .ref 2] :: κ) (by decide) (by decide)
  have e6 : callI defs 39 F_w_take [.ref 0, .t (.int 3)] (memD7 s3 A B κ) = .ok (.t (.int c)) (memD7 s4 A B κ) := e6
  have pA : ∀ p ∈ A, -1 < p.1 := fun p hp => by
    obtain ⟨q, hq, e⟩ := dr_mem sA dA hp
    have := hr.pos q hq
    omega
  have pB : ∀ p ∈ B, -1 < p.1 := fun p hp => by
    obtain ⟨q, hq, e⟩ := dr_mem sB dB hp
    have := hr.pos q hq
    omega
  have la : A.length ≤ 40 := by rw [dr_len dA]; exact lA
  have lb : B.length ≤ 40 := by rw [dr_len dB]; exact lB
  obtain ⟨T1, T2, s5, t1, n1, t2, n2, e7⟩ := c_webs (k := 39) (by decide) s4 (A := A) (B := B) κ (c == 0) (dr_pair hr sA dA) (dr_pair hr sB dB) pA pB la lb (some (.t (.scr ns)))
  have w1 : WebOk A T1 := dr_web hr hp43 sA lA dA t1 n1
  have w2 : WebOk B T2 := dr_web hr hp43 sB lB dB t2 n2
  obtain ⟨M, hM⟩ : ∃ M, memD7 s5 A B (κ ++ [.lst [webD 1 T1, webD 2 T2]]) = M := ⟨_, rfl⟩
  obtain ⟨m, hm⟩ : ∃ m, κ.length + 4 = m := ⟨_, rfl⟩
  rw [hM, hm] at e7
  have g1 : M[1]? = some (plC A) := by rw [← hM]; rfl
  have g2 : M[2]? = some (plC B) := by rw [← hM]; rfl
  have gm : M[m]? = some (.lst [webD 1 T1, webD 2 T2]) := by
    rw [← hM, ← hm]
    show (κ ++ [Cell.lst [webD 1 T1, webD 2 T2]])[κ.length]? = _
    rw [getA0]
    rfl
  -- of any memory with the webs
  have ix0 : ∀ μ : Mem, μ[m]? = some (.lst [webD 1 T1, webD 2 T2]) → ixD (.ref m) (.t (.int 0)) μ = .ok (webD 1 T1) μ := fun μ h => ix_cell h rfl
  have ix1 : ∀ μ : Mem, μ[m]? = some (.lst [webD 1 T1, webD 2 T2]) → ixD (.ref m) (.t (.int 1)) μ = .ok (webD 2 T2) μ := fun μ h => ix_cell h rfl
  have due12 : callI defs 39 F_w_due [webD 1 T1, webD 2 T2] M = .ok (.t (dueV A T1 B T2)) M := c_w_due (by decide) (.cel g1) (.cel g2) (by omega) (by omega) (by omega) (by omega)
  have due11 : ∀ μ : Mem, μ[1]? = some (plC A) → callI defs 39 F_w_due [webD 1 T1, webD 1 T1] μ = .ok (.t (dueV A T1 A T1)) μ := fun μ h => c_w_due (by decide) (.cel h) (.cel h) (by omega) (by omega) (by omega) (by omega)
  have e9 : evE (callI defs 39) C_law_0 [some (.t (.scr ns)), some (.ref 0), some (.ref 3), some (.t (.bl (c == 0))), some (.ref m), none, some (.t (dueV A T1 B T2)), none, none, none, none] M = .ok (.t (.lst [webT A T1, webT B T2])) M := by
    have hl : lstOf M (.ref m) = some [webD 1 T1, webD 2 T2] := by simp only [lO_ref, gm]
    have := ev_map (F := callI defs 39) (own := [("_law_web", 8)]) (tg := .nm 8) (it := .val (.var 4)) (e := .call F_w_copy (.cons (.var 8) .nil)) (env := [some (.t (.scr ns)), some (.ref 0), some (.ref 3), some (.t (.bl (c == 0))), some (.ref m), none, some (.t (dueV A T1 B T2)), none, none, none, none]) (μ := M) (w := [(m, [webD 1 T1, webD 2 T2])]) (fun p : D × T => p.1) [(webD 1 T1, webT A T1), (webD 2 T2, webT B T2)] (fun p => p.2) (by
      simp only [evI, evE, bnd_ap, List.getElem?_cons_zero, List.getElem?_cons_succ, hl, wL_ref, List.map_cons, List.map_nil]) (by simp [sizeLine_eq]) (fun p hp => by
        rw [List.mem_singleton] at hp
        rw [hp]
        exact gm) (fun x hx => ⟨_, rfl, by
        have c1 := c_w_copy_d (k := 39) (by decide) (.cel (c := 1) (L := A.map pT) g1) (P1 := A) (T1 := T1) (by omega) (by omega)
        have c2 := c_w_copy_d (k := 39) (by decide) (.cel (c := 2) (L := B.map pT) g2) (P1 := B) (T1 := T2) (by omega) (by omega)
        simp only [List.mem_cons, List.not_mem_nil, or_false] at hx
        rcases hx with rfl | rfl
        · simp only [wipeD, List.map_cons, List.map_nil, List.set_cons_zero, List.set_cons_succ, evE, evEs, bnd_ap, pur_ap, List.getElem?_cons_zero, List.getElem?_cons_succ, c1]
        · simp only [wipeD, List.map_cons, List.map_nil, List.set_cons_zero, List.set_cons_succ, evE, evEs, bnd_ap, pur_ap, List.getElem?_cons_zero, List.getElem?_cons_succ, c2]⟩)
    exact this
  have ixh0 : ∀ μ, ixD (.t (.lst [webT A T1, webT B T2])) (.t (.int 0)) μ = .ok (.t (webT A T1)) μ := fun μ => rfl
  have ixh1 : ∀ μ, ixD (.t (.lst [webT A T1, webT B T2])) (.t (.int 1)) μ = .ok (.t (webT B T2)) μ := fun μ => rfl
  have met12 := fun μ => met_due (k := 39) (by decide) w1 w2 μ
  have met21 : ∀ μ, callI defs 39 F_w_met [.t (webT B T2), .t (webT A T1)] μ = .ok (.t (dueV A T1 B T2)) μ := fun μ => by
    rw [dueV_comm A T1 B T2]
    exact met_due (k := 39) (by decide) w2 w1 μ
  have met11 := fun μ => met_due (k := 39) (by decide) w1 w1 μ
  have sd12 : ∀ μ, callI defs 39 F_w_same [.t (dueV A T1 B T2), .t (dueV A T1 B T2)] μ = .ok (.t (.bl true)) μ := same_dueV (by decide) _ _ _ _ (by rw [List.length_append]; omega) (by rw [List.length_append]; omega)
  have sd11 : ∀ μ, callI defs 39 F_w_same [.t (dueV A T1 A T1), .t (dueV A T1 A T1)] μ = .ok (.t (.bl true)) μ := same_dueV (by decide) _ _ _ _ (by rw [List.length_append]; omega) (by rw [List.length_append]; omega)
  have shw : ∀ μ : Mem, μ[1]? = some (plC A) → μ[2]? = some (plC B) → μ[m]? = some (.lst [webD 1 T1, webD 2 T2]) → callI defs 39 F_w_same [.t (.lst [webT A T1, webT B T2]), .ref m] μ = .ok (.t (.bl true)) μ := fun μ h1 h2 h3 =>
    same_two_l (k := 38) (a1 := .t (webT A T1)) (a2 := .t (webT B T2)) (b1 := webD 1 T1) (b2 := webD 2 T2) rfl (by simp only [lO_ref, h3]) (wok_nil _) (fun p hp => by
      rw [wL_ref, List.mem_singleton] at hp
      rw [hp]
      exact h3) rfl (by simp only [tyOf, h3])
      (same_web_d (k := 38) (by decide) (P := A) (U := T1) (a1 := .t (plT A)) (a2 := .t (plT T1)) (b1 := .ref 1) (b2 := .t (plT T1)) rfl rfl rfl rfl rfl rfl (.frz _ _) (.frz _ _) (.cel h1) (.frz _ _) (by omega) (by omega))
      (same_web_d (k := 38) (by decide) (P := B) (U := T2) (a1 := .t (plT B)) (a2 := .t (plT T2)) (b1 := .ref 2) (b2 := .t (plT T2)) rfl rfl rfl rfl rfl rfl (.frz _ _) (.frz _ _) (.cel h2) (.frz _ _) (by omega) (by omega))
  have eq : ∀ i j : Int, ∀ μ, cmpD .eq (.t (.int i)) (.t (.int j)) μ = .ok (.t (.bl (i == j))) μ := fun i j μ => rfl
  simp only [List.nil_append, List.length_nil] at e1 e2 e3
  obtain ⟨mk1, mk2⟩ := c_w_met_k w1 w2 M (k := 39) (by decide)
  have n40 : (A ++ B).length ≤ 10000 := by rw [List.length_append]; omega
  have n120 : (T1 ++ T2).length ≤ 10000 := by rw [List.length_append]; omega
  by_cases hbad : BadL A T1 B T2
  · have e10 := mk1 ((refu_iff w1 w2).mpr hbad)
    have hdue : dueV A T1 B T2 = .lst [.bl true, .bl false] := by unfold dueV; rw [if_pos hbad]
    have ity : isiD [.tup] (.t (.lst [.bl true, .bl false])) M = .ok (.t (.bl false)) M := rfl
    have j0 := ix0 M gm
    have j1 := ix1 M gm
    have d11 := due11 M g1
    have sh := shw M g1 g2 gm
    have x0 := leave_law M (.bl true)
    rw [← hdue] at e10 ity
    clear hr hb hpl sA sB dA dB pA pB la lb t1 t2 n1 n2 w1 w2 hM hm g1 g2 gm ix0 ix1 due11 shw mk1 mk2 hbad hdue
    generalize webT A T1 = H1 at *
    generalize webT B T2 = H2 at *
    generalize webD 1 T1 = W1 at *
    generalize webD 2 T2 = W2 at *
    generalize dueV A T1 A T1 = V at *
    generalize plT ps = P at *
    generalize memD7 s2 A0 B0 κ = M2 at *
    generalize memD7 s3 A B κ = M3 at *
    generalize memD7 s4 A B κ = M4 at *
    generalize dueV A T1 B T2 = R at *
    generalize T.lst [H1, H2] = H at *
    simp only [evSs, evS, evE, evEs, bnd_ap, pur_ap, lift_ap, outO_ap, andThen_ap, ite_ap, ite_apO, toB_ap, asgT, List.getElem?_cons_zero, List.getElem?_cons_succ, List.set_cons_zero, List.set_cons_succ, e1, e2, e3, e4, e5, e6, eq, e7, j0, j1, due12, e9, ixh0, ixh1, e10, met12, met21, met11, sd12, sd11, ity, d11, sh, Bool.not_true, Bool.false_eq_true, if_true, if_false, fin, x0]
  · have e10 := mk2 fun h => hbad ((refu_iff w1 w2).mp h)
    have hdue : dueV A T1 B T2 = webT (sortP (A ++ B)) (sortP (T1 ++ T2)) := by unfold dueV; rw [if_neg hbad]
    obtain ⟨S1, hS1⟩ : ∃ S1, sortP (A ++ B) = S1 := ⟨_, rfl⟩
    obtain ⟨S2, hS2⟩ : ∃ S2, sortP (T1 ++ T2) = S2 := ⟨_, rfl⟩
    have lS1 : S1.length ≤ 10000 := by rw [← hS1, sortP_len]; exact n40
    have lS2 : S2.length ≤ 10000 := by rw [← hS2, sortP_len]; exact n120
    rw [hS1, hS2] at e10 hdue
    obtain ⟨M5, hM5⟩ : ∃ M5, M ++ [plC S1, plC S2] = M5 := ⟨_, rfl⟩
    obtain ⟨M6, hM6⟩ : ∃ M6, M ++ [.lst (((S1.map pT).map D.t) ++ [.t .non]), plC S2] = M6 := ⟨_, rfl⟩
    obtain ⟨M7, hM7⟩ : ∃ M7, M ++ [.lst (((S1.map pT).map D.t) ++ [.t .non]), .lst (((S2.map pT).map D.t) ++ [.t .non])] = M7 := ⟨_, rfl⟩
    have e10 : callI defs 39 F_w_met_k [.t (webT A T1), .t (webT B T2)] M = .ok (.tp [.ref M.length, .ref (M.length + 1)]) M5 := by rw [e10, ← hM5]
    have h5a : M5[M.length]? = some (plC S1) := by rw [← hM5, getA0]; rfl
    have h5b : M5[M.length + 1]? = some (plC S2) := by rw [← hM5, getA]; rfl
    have h6b : M6[M.length + 1]? = some (plC S2) := by rw [← hM6, getA]; rfl
    have std : callI defs 39 F_w_same [.tp [.ref M.length, .ref (M.length + 1)], .t (dueV A T1 B T2)] M5 = .ok (.t (.bl true)) M5 := by
      rw [hdue]
      exact same_web_d (k := 39) (by decide) (P := S1) (U := S2) (a1 := .ref M.length) (a2 := .ref (M.length + 1)) (b1 := .t (plT S1)) (b2 := .t (plT S2)) rfl rfl rfl rfl rfl rfl (.cel h5a) (.cel h5b) (.frz _ _) (.frz _ _) lS1 lS2
    have ity : ∀ μ, isiD [.tup] (.tp [.ref M.length, .ref (M.length + 1)]) μ = .ok (.t (.bl true)) μ := fun μ => rfl
    have k0 : ∀ μ, ixD (.tp [.ref M.length, .ref (M.length + 1)]) (.t (.int 0)) μ = .ok (.ref M.length) μ := fun μ => rfl
    have k1 : ∀ μ, ixD (.tp [.ref M.length, .ref (M.length + 1)]) (.t (.int 1)) μ = .ok (.ref (M.length + 1)) μ := fun μ => rfl
    have ty5 : tyOf M5 (.ref M.length) = some .lst := by simp only [tyOf, h5a]
    have ty6 : tyOf M6 (.ref (M.length + 1)) = some .lst := by simp only [tyOf, h6b]
    have ap5 : mthD .append (.ref M.length) [.t .non] M5 = .ok (.t .non) M6 := by
      have z : ((S1.map pT).map D.t).length < 16777216 := by simp; omega
      have st : M5.set M.length (.lst (((S1.map pT).map D.t) ++ [.t .non])) = M6 := by rw [← hM5, ← hM6, setA0]; rfl
      simp only [mthD, h5a, sizeLine_eq, z, if_true, st]
    have ap6 : mthD .append (.ref (M.length + 1)) [.t .non] M6 = .ok (.t .non) M7 := by
      have z : ((S2.map pT).map D.t).length < 16777216 := by simp; omega
      have st : M6.set (M.length + 1) (.lst (((S2.map pT).map D.t) ++ [.t .non])) = M7 := by rw [← hM6, ← hM7, setA]; rfl
      simp only [mthD, h6b, sizeLine_eq, z, if_true, st]
    have q1 : M7[1]? = some (plC A) := by rw [← hM7]; exact getL g1
    have q2 : M7[2]? = some (plC B) := by rw [← hM7]; exact getL g2
    have qm : M7[m]? = some (.lst [webD 1 T1, webD 2 T2]) := by rw [← hM7]; exact getL gm
    have j0 := ix0 M gm
    have j1 := ix1 M gm
    have i0 := ix0 M7 qm
    have d11 := due11 M7 q1
    have sh := shw M7 q1 q2 qm
    have x0 := leave_law M7 (.bl true)
    clear hr hb hpl sA sB dA dB pA pB la lb t1 t2 n1 n2 w1 w2 hM hm g1 g2 gm ix0 ix1 due11 shw mk1 mk2 hbad hdue hS1 hS2 hM5 hM6 hM7 h5a h5b h6b q1 q2 qm
    generalize webT A T1 = H1 at *
    generalize webT B T2 = H2 at *
    generalize webD 1 T1 = W1 at *
    generalize webD 2 T2 = W2 at *
    generalize dueV A T1 A T1 = V at *
    generalize plT ps = P at *
    generalize memD7 s2 A0 B0 κ = M2 at *
    generalize memD7 s3 A B κ = M3 at *
    generalize memD7 s4 A B κ = M4 at *
    generalize dueV A T1 B T2 = R at *
    generalize T.lst [H1, H2] = H at *
    generalize D.tp [.ref M.length, .ref (M.length + 1)] = TT at *
    generalize M.length = N at *
    simp only [evSs, evS, evE, evEs, bnd_ap, pur_ap, lift_ap, outO_ap, andThen_ap, ite_ap, ite_apO, toB_ap, asgT, List.getElem?_cons_zero, List.getElem?_cons_succ, List.set_cons_zero, List.set_cons_succ, e1, e2, e3, e4, e5, e6, eq, e7, j0, j1, i0, due12, e9, ixh0, ixh1, e10, met12, met21, met11, sd12, sd11, std, ity, k0, k1, tyChk, mthT, ty5, ty6, ap5, ap6, d11, sh, Bool.not_true, Bool.false_eq_true, if_true, if_false, fin, x0]
/-! the end -/
theorem bnd0 : ∀ (kV doc pm : Value) (an : Option Addr) (cdv ct : Value) (us : List Value), us.length = e0.ps.length → bindArgs (PySem.W.fnOf e0.nm e0.nm (defArgs e0.st) (defBody e0.st) (defScope e0.st) .none kV doc pm an cdv ct) ⟨us, []⟩ = pure (e0.ps.zip us) := fun _ _ _ _ _ _ us hl => match us, hl with | [_], _ => rfl
theorem bnd1 : ∀ (kV doc pm : Value) (an : Option Addr) (cdv ct : Value) (us : List Value), us.length = e1.ps.length → bindArgs (PySem.W.fnOf e1.nm e1.nm (defArgs e1.st) (defBody e1.st) (defScope e1.st) .none kV doc pm an cdv ct) ⟨us, []⟩ = pure (e1.ps.zip us) := fun _ _ _ _ _ _ us hl => match us, hl with | [_, _], _ => rfl
theorem bnd2 : ∀ (kV doc pm : Value) (an : Option Addr) (cdv ct : Value) (us : List Value), us.length = e2.ps.length → bindArgs (PySem.W.fnOf e2.nm e2.nm (defArgs e2.st) (defBody e2.st) (defScope e2.st) .none kV doc pm an cdv ct) ⟨us, []⟩ = pure (e2.ps.zip us) := fun _ _ _ _ _ _ us hl => match us, hl with | [_, _], _ => rfl
theorem bnd3 : ∀ (kV doc pm : Value) (an : Option Addr) (cdv ct : Value) (us : List Value), us.length = e3.ps.length → bindArgs (PySem.W.fnOf e3.nm e3.nm (defArgs e3.st) (defBody e3.st) (defScope e3.st) .none kV doc pm an cdv ct) ⟨us, []⟩ = pure (e3.ps.zip us) := fun _ _ _ _ _ _ us hl => match us, hl with | [_, _], _ => rfl
theorem bnd4 : ∀ (kV doc pm : Value) (an : Option Addr) (cdv ct : Value) (us : List Value), us.length = e4.ps.length → bindArgs (PySem.W.fnOf e4.nm e4.nm (defArgs e4.st) (defBody e4.st) (defScope e4.st) .none kV doc pm an cdv ct) ⟨us, []⟩ = pure (e4.ps.zip us) := fun _ _ _ _ _ _ us hl => match us, hl with | [_], _ => rfl
theorem bnd5 : ∀ (kV doc pm : Value) (an : Option Addr) (cdv ct : Value) (us : List Value), us.length = e5.ps.length → bindArgs (PySem.W.fnOf e5.nm e5.nm (defArgs e5.st) (defBody e5.st) (defScope e5.st) .none kV doc pm an cdv ct) ⟨us, []⟩ = pure (e5.ps.zip us) := fun _ _ _ _ _ _ us hl => match us, hl with | [_, _], _ => rfl
theorem bnd6 : ∀ (kV doc pm : Value) (an : Option Addr) (cdv ct : Value) (us : List Value), us.length = e6.ps.length → bindArgs (PySem.W.fnOf e6.nm e6.nm (defArgs e6.st) (defBody e6.st) (defScope e6.st) .none kV doc pm an cdv ct) ⟨us, []⟩ = pure (e6.ps.zip us) := fun _ _ _ _ _ _ us hl => match us, hl with | [_, _, _], _ => rfl
theorem bnd7 : ∀ (kV doc pm : Value) (an : Option Addr) (cdv ct : Value) (us : List Value), us.length = e7.ps.length → bindArgs (PySem.W.fnOf e7.nm e7.nm (defArgs e7.st) (defBody e7.st) (defScope e7.st) .none kV doc pm an cdv ct) ⟨us, []⟩ = pure (e7.ps.zip us) := fun _ _ _ _ _ _ us hl => match us, hl with | [_], _ => rfl
theorem bnd8 : ∀ (kV doc pm : Value) (an : Option Addr) (cdv ct : Value) (us : List Value), us.length = e8.ps.length → bindArgs (PySem.W.fnOf e8.nm e8.nm (defArgs e8.st) (defBody e8.st) (defScope e8.st) .none kV doc pm an cdv ct) ⟨us, []⟩ = pure (e8.ps.zip us) := fun _ _ _ _ _ _ us hl => match us, hl with | [_], _ => rfl
theorem bnd9 : ∀ (kV doc pm : Value) (an : Option Addr) (cdv ct : Value) (us : List Value), us.length = e9.ps.length → bindArgs (PySem.W.fnOf e9.nm e9.nm (defArgs e9.st) (defBody e9.st) (defScope e9.st) .none kV doc pm an cdv ct) ⟨us, []⟩ = pure (e9.ps.zip us) := fun _ _ _ _ _ _ us hl => match us, hl with | [_], _ => rfl
theorem bnd10 : ∀ (kV doc pm : Value) (an : Option Addr) (cdv ct : Value) (us : List Value), us.length = e10.ps.length → bindArgs (PySem.W.fnOf e10.nm e10.nm (defArgs e10.st) (defBody e10.st) (defScope e10.st) .none kV doc pm an cdv ct) ⟨us, []⟩ = pure (e10.ps.zip us) := fun _ _ _ _ _ _ us hl => match us, hl with | [_, _, _], _ => rfl
theorem bnd11 : ∀ (kV doc pm : Value) (an : Option Addr) (cdv ct : Value) (us : List Value), us.length = e11.ps.length → bindArgs (PySem.W.fnOf e11.nm e11.nm (defArgs e11.st) (defBody e11.st) (defScope e11.st) .none kV doc pm an cdv ct) ⟨us, []⟩ = pure (e11.ps.zip us) := fun _ _ _ _ _ _ us hl => match us, hl with | [_], _ => rfl
theorem bnd12 : ∀ (kV doc pm : Value) (an : Option Addr) (cdv ct : Value) (us : List Value), us.length = e12.ps.length → bindArgs (PySem.W.fnOf e12.nm e12.nm (defArgs e12.st) (defBody e12.st) (defScope e12.st) .none kV doc pm an cdv ct) ⟨us, []⟩ = pure (e12.ps.zip us) := fun _ _ _ _ _ _ us hl => match us, hl with | [_, _], _ => rfl
theorem bnd13 : ∀ (kV doc pm : Value) (an : Option Addr) (cdv ct : Value) (us : List Value), us.length = e13.ps.length → bindArgs (PySem.W.fnOf e13.nm e13.nm (defArgs e13.st) (defBody e13.st) (defScope e13.st) .none kV doc pm an cdv ct) ⟨us, []⟩ = pure (e13.ps.zip us) := fun _ _ _ _ _ _ us hl => match us, hl with | [_, _], _ => rfl
theorem bnd14 : ∀ (kV doc pm : Value) (an : Option Addr) (cdv ct : Value) (us : List Value), us.length = e14.ps.length → bindArgs (PySem.W.fnOf e14.nm e14.nm (defArgs e14.st) (defBody e14.st) (defScope e14.st) .none kV doc pm an cdv ct) ⟨us, []⟩ = pure (e14.ps.zip us) := fun _ _ _ _ _ _ us hl => match us, hl with | [_, _], _ => rfl
theorem bnd15 : ∀ (kV doc pm : Value) (an : Option Addr) (cdv ct : Value) (us : List Value), us.length = e15.ps.length → bindArgs (PySem.W.fnOf e15.nm e15.nm (defArgs e15.st) (defBody e15.st) (defScope e15.st) .none kV doc pm an cdv ct) ⟨us, []⟩ = pure (e15.ps.zip us) := fun _ _ _ _ _ _ us hl => match us, hl with | [_], _ => rfl
theorem bnd16 : ∀ (kV doc pm : Value) (an : Option Addr) (cdv ct : Value) (us : List Value), us.length = e16.ps.length → bindArgs (PySem.W.fnOf e16.nm e16.nm (defArgs e16.st) (defBody e16.st) (defScope e16.st) .none kV doc pm an cdv ct) ⟨us, []⟩ = pure (e16.ps.zip us) := fun _ _ _ _ _ _ us hl => match us, hl with | [_, _, _], _ => rfl
theorem bnd17 : ∀ (kV doc pm : Value) (an : Option Addr) (cdv ct : Value) (us : List Value), us.length = e17.ps.length → bindArgs (PySem.W.fnOf e17.nm e17.nm (defArgs e17.st) (defBody e17.st) (defScope e17.st) .none kV doc pm an cdv ct) ⟨us, []⟩ = pure (e17.ps.zip us) := fun _ _ _ _ _ _ us hl => match us, hl with | [_, _], _ => rfl
theorem bnd18 : ∀ (kV doc pm : Value) (an : Option Addr) (cdv ct : Value) (us : List Value), us.length = e18.ps.length → bindArgs (PySem.W.fnOf e18.nm e18.nm (defArgs e18.st) (defBody e18.st) (defScope e18.st) .none kV doc pm an cdv ct) ⟨us, []⟩ = pure (e18.ps.zip us) := fun _ _ _ _ _ _ us hl => match us, hl with | [_, _], _ => rfl
theorem bnd19 : ∀ (kV doc pm : Value) (an : Option Addr) (cdv ct : Value) (us : List Value), us.length = e19.ps.length → bindArgs (PySem.W.fnOf e19.nm e19.nm (defArgs e19.st) (defBody e19.st) (defScope e19.st) .none kV doc pm an cdv ct) ⟨us, []⟩ = pure (e19.ps.zip us) := fun _ _ _ _ _ _ us hl => match us, hl with | [_, _], _ => rfl
theorem bnd20 : ∀ (kV doc pm : Value) (an : Option Addr) (cdv ct : Value) (us : List Value), us.length = e20.ps.length → bindArgs (PySem.W.fnOf e20.nm e20.nm (defArgs e20.st) (defBody e20.st) (defScope e20.st) .none kV doc pm an cdv ct) ⟨us, []⟩ = pure (e20.ps.zip us) := fun _ _ _ _ _ _ us hl => match us, hl with | [_, _], _ => rfl
theorem bnd21 : ∀ (kV doc pm : Value) (an : Option Addr) (cdv ct : Value) (us : List Value), us.length = e21.ps.length → bindArgs (PySem.W.fnOf e21.nm e21.nm (defArgs e21.st) (defBody e21.st) (defScope e21.st) .none kV doc pm an cdv ct) ⟨us, []⟩ = pure (e21.ps.zip us) := fun _ _ _ _ _ _ us hl => match us, hl with | [_, _], _ => rfl
theorem iniB1 : iniB "self" ["part", "number"] (defBody (iniS (topS 2))) = true := by decide +kernel
theorem iniS1 : FnScope ("self" :: ["part", "number"]) ("self" :: ["part", "number"]) (defScope (iniS (topS 2))) := ⟨rfl, rfl, rfl, by decide +kernel, rfl, by decide +kernel, by decide +kernel⟩
theorem iniV1 : visA (defScope (iniS (topS 2))) ("self" :: ["part", "number"]) = true := by decide +kernel
theorem iniA1 : ∀ (kV doc pm : Value) (an : Option Addr) (cdv ct : Value) (us : List Value), us.length = ("self" :: ["part", "number"] : List Str).length → bindArgs (PySem.W.fnOf "__init__" "NoWeb.__init__" (defArgs (iniS (topS 2))) (defBody (iniS (topS 2))) (defScope (iniS (topS 2))) .none kV doc pm an cdv ct) ⟨us, []⟩ = pure (("self" :: ["part", "number"] : List Str).zip us) := fun _ _ _ _ _ _ us hl => match us, hl with | [_, _, _], _ => rfl
theorem xbnd0 : ∀ (kV doc pm : Value) (an : Option Addr) (cdv ct : Value) (us : List Value), us.length = (["_law_e"] : List Str).length → bindArgs (PySem.W.fnOf "_law_others" "_law_others" (defArgs (topS 44)) (defBody (topS 44)) (defScope (topS 44)) .none kV doc pm an cdv ct) ⟨us, []⟩ = pure ((["_law_e"] : List Str).zip us) := fun _ _ _ _ _ _ us hl => match us, hl with | [_], _ => rfl
theorem xS0 : FnScope ["_law_e"] ["_law_e"] (defScope (topS 44)) := ⟨rfl, rfl, rfl, by decide +kernel, rfl, by decide +kernel, by decide +kernel⟩
theorem xch0 : xfB subs "NoJoin" false "_law_e" ["NoWeb", "NoPlace", "NoRows", "Overpaid", "NoStep", "NoTree", "NotTwo", "NotForest", "TooWide"] ["NoText", "NoSet", "NoCalls", "TooMany", "NoDeed", "Bare", "NoSay", "NoName"] (topS 44) = true := by decide +kernel
theorem fin {w : World} {K : PySem.W.Frag} {h : Heap} {mg : Str → Option Value} {fa : Addr} (X : K.In h) (G : h.Ns mainGlobals mg) (hfa : mg "law" = some (.ref fa))
    {f0 : Addr} {oc0 kV0 dc0 pm0 cd0 ct0 : Value} {od0 an0 : Option Addr} {sl0 : Array (Option Value)}
    (a0 : PySem.W.nsIn K mainGlobals "law" = some (some (.ref f0))) (l0 : K.lookup f0 = some ⟨oc0, od0, .func (PySem.W.fnOf "law" "law" (defArgs (topS 47)) (defBody (topS 47)) (defScope (topS 47)) .none kV0 dc0 pm0 an0 cd0 ct0), sl0⟩) (c0 : PySem.W.codeIn K cd0 "law" = true) (k0 : PySem.W.keepIn K (.ref f0) = true)
    {f1 : Addr} {oc1 kV1 dc1 pm1 cd1 ct1 : Value} {od1 an1 : Option Addr} {sl1 : Array (Option Value)}
    (a1 : PySem.W.nsIn K mainGlobals "_law_same" = some (some (.ref f1))) (l1 : K.lookup f1 = some ⟨oc1, od1, .func (PySem.W.fnOf "_law_same" "_law_same" (defArgs (topS 39)) (defBody (topS 39)) (defScope (topS 39)) .none kV1 dc1 pm1 an1 cd1 ct1), sl1⟩) (c1 : PySem.W.codeIn K cd1 "_law_same" = true) (k1 : PySem.W.keepIn K (.ref f1) = true)
    {f2 : Addr} {oc2 kV2 dc2 pm2 cd2 ct2 : Value} {od2 an2 : Option Addr} {sl2 : Array (Option Value)}
    (a2 : PySem.W.nsIn K mainGlobals "_law_met" = some (some (.ref f2))) (l2 : K.lookup f2 = some ⟨oc2, od2, .func (PySem.W.fnOf "_law_met" "_law_met" (defArgs (topS 45)) (defBody (topS 45)) (defScope (topS 45)) .none kV2 dc2 pm2 an2 cd2 ct2), sl2⟩) (c2 : PySem.W.codeIn K cd2 "_law_met" = true) (k2 : PySem.W.keepIn K (.ref f2) = true)
    {f3 : Addr} {oc3 kV3 dc3 pm3 cd3 ct3 : Value} {od3 an3 : Option Addr} {sl3 : Array (Option Value)}
    (a3 : PySem.W.nsIn K mainGlobals "beside" = some (some (.ref f3))) (l3 : K.lookup f3 = some ⟨oc3, od3, .func (PySem.W.fnOf "beside" "beside" (defArgs (topS 34)) (defBody (topS 34)) (defScope (topS 34)) .none kV3 dc3 pm3 an3 cd3 ct3), sl3⟩) (c3 : PySem.W.codeIn K cd3 "beside" = true) (k3 : PySem.W.keepIn K (.ref f3) = true)
    {f4 : Addr} {oc4 kV4 dc4 pm4 cd4 ct4 : Value} {od4 an4 : Option Addr} {sl4 : Array (Option Value)}
    (a4 : PySem.W.nsIn K mainGlobals "look_at_web" = some (some (.ref f4))) (l4 : K.lookup f4 = some ⟨oc4, od4, .func (PySem.W.fnOf "look_at_web" "look_at_web" (defArgs (topS 31)) (defBody (topS 31)) (defScope (topS 31)) .none kV4 dc4 pm4 an4 cd4 ct4), sl4⟩) (c4 : PySem.W.codeIn K cd4 "look_at_web" = true) (k4 : PySem.W.keepIn K (.ref f4) = true)
    {f5 : Addr} {oc5 kV5 dc5 pm5 cd5 ct5 : Value} {od5 an5 : Option Addr} {sl5 : Array (Option Value)}
    (a5 : PySem.W.nsIn K mainGlobals "bad_tie" = some (some (.ref f5))) (l5 : K.lookup f5 = some ⟨oc5, od5, .func (PySem.W.fnOf "bad_tie" "bad_tie" (defArgs (topS 30)) (defBody (topS 30)) (defScope (topS 30)) .none kV5 dc5 pm5 an5 cd5 ct5), sl5⟩) (c5 : PySem.W.codeIn K cd5 "bad_tie" = true) (k5 : PySem.W.keepIn K (.ref f5) = true)
    {f6 : Addr} {oc6 kV6 dc6 pm6 cd6 ct6 : Value} {od6 an6 : Option Addr} {sl6 : Array (Option Value)}
    (a6 : PySem.W.nsIn K mainGlobals "tie_stands" = some (some (.ref f6))) (l6 : K.lookup f6 = some ⟨oc6, od6, .func (PySem.W.fnOf "tie_stands" "tie_stands" (defArgs (topS 28)) (defBody (topS 28)) (defScope (topS 28)) .none kV6 dc6 pm6 an6 cd6 ct6), sl6⟩) (c6 : PySem.W.codeIn K cd6 "tie_stands" = true) (k6 : PySem.W.keepIn K (.ref f6) = true)
    {f7 : Addr} {oc7 kV7 dc7 pm7 cd7 ct7 : Value} {od7 an7 : Option Addr} {sl7 : Array (Option Value)}
    (a7 : PySem.W.nsIn K mainGlobals "is_pair" = some (some (.ref f7))) (l7 : K.lookup f7 = some ⟨oc7, od7, .func (PySem.W.fnOf "is_pair" "is_pair" (defArgs (topS 26)) (defBody (topS 26)) (defScope (topS 26)) .none kV7 dc7 pm7 an7 cd7 ct7), sl7⟩) (c7 : PySem.W.codeIn K cd7 "is_pair" = true) (k7 : PySem.W.keepIn K (.ref f7) = true)
    {f8 : Addr} {oc8 kV8 dc8 pm8 cd8 ct8 : Value} {od8 an8 : Option Addr} {sl8 : Array (Option Value)}
    (a8 : PySem.W.nsIn K mainGlobals "is_whole" = some (some (.ref f8))) (l8 : K.lookup f8 = some ⟨oc8, od8, .func (PySem.W.fnOf "is_whole" "is_whole" (defArgs (topS 25)) (defBody (topS 25)) (defScope (topS 25)) .none kV8 dc8 pm8 an8 cd8 ct8), sl8⟩) (c8 : PySem.W.codeIn K cd8 "is_whole" = true) (k8 : PySem.W.keepIn K (.ref f8) = true)
    {f9 : Addr} {oc9 kV9 dc9 pm9 cd9 ct9 : Value} {od9 an9 : Option Addr} {sl9 : Array (Option Value)}
    (a9 : PySem.W.nsIn K mainGlobals "bad_place" = some (some (.ref f9))) (l9 : K.lookup f9 = some ⟨oc9, od9, .func (PySem.W.fnOf "bad_place" "bad_place" (defArgs (topS 29)) (defBody (topS 29)) (defScope (topS 29)) .none kV9 dc9 pm9 an9 cd9 ct9), sl9⟩) (c9 : PySem.W.codeIn K cd9 "bad_place" = true) (k9 : PySem.W.keepIn K (.ref f9) = true)
    {f10 : Addr} {oc10 kV10 dc10 pm10 cd10 ct10 : Value} {od10 an10 : Option Addr} {sl10 : Array (Option Value)}
    (a10 : PySem.W.nsIn K mainGlobals "place_stands" = some (some (.ref f10))) (l10 : K.lookup f10 = some ⟨oc10, od10, .func (PySem.W.fnOf "place_stands" "place_stands" (defArgs (topS 27)) (defBody (topS 27)) (defScope (topS 27)) .none kV10 dc10 pm10 an10 cd10 ct10), sl10⟩) (c10 : PySem.W.codeIn K cd10 "place_stands" = true) (k10 : PySem.W.keepIn K (.ref f10) = true)
    {f11 : Addr} {oc11 kV11 dc11 pm11 cd11 ct11 : Value} {od11 an11 : Option Addr} {sl11 : Array (Option Value)}
    (a11 : PySem.W.nsIn K mainGlobals "numbers_in" = some (some (.ref f11))) (l11 : K.lookup f11 = some ⟨oc11, od11, .func (PySem.W.fnOf "numbers_in" "numbers_in" (defArgs (topS 32)) (defBody (topS 32)) (defScope (topS 32)) .none kV11 dc11 pm11 an11 cd11 ct11), sl11⟩) (c11 : PySem.W.codeIn K cd11 "numbers_in" = true) (k11 : PySem.W.keepIn K (.ref f11) = true)
    {f12 : Addr} {oc12 kV12 dc12 pm12 cd12 ct12 : Value} {od12 an12 : Option Addr} {sl12 : Array (Option Value)}
    (a12 : PySem.W.nsIn K mainGlobals "_law_due" = some (some (.ref f12))) (l12 : K.lookup f12 = some ⟨oc12, od12, .func (PySem.W.fnOf "_law_due" "_law_due" (defArgs (topS 46)) (defBody (topS 46)) (defScope (topS 46)) .none kV12 dc12 pm12 an12 cd12 ct12), sl12⟩) (c12 : PySem.W.codeIn K cd12 "_law_due" = true) (k12 : PySem.W.keepIn K (.ref f12) = true)
    {f13 : Addr} {oc13 kV13 dc13 pm13 cd13 ct13 : Value} {od13 an13 : Option Addr} {sl13 : Array (Option Value)}
    (a13 : PySem.W.nsIn K mainGlobals "_law_met" = some (some (.ref f13))) (l13 : K.lookup f13 = some ⟨oc13, od13, .func (PySem.W.fnOf "_law_met" "_law_met" (defArgs (topS 45)) (defBody (topS 45)) (defScope (topS 45)) .none kV13 dc13 pm13 an13 cd13 ct13), sl13⟩) (c13 : PySem.W.codeIn K cd13 "_law_met" = true) (k13 : PySem.W.keepIn K (.ref f13) = true)
    {f14 : Addr} {oc14 kV14 dc14 pm14 cd14 ct14 : Value} {od14 an14 : Option Addr} {sl14 : Array (Option Value)}
    (a14 : PySem.W.nsIn K mainGlobals "beside" = some (some (.ref f14))) (l14 : K.lookup f14 = some ⟨oc14, od14, .func (PySem.W.fnOf "beside" "beside" (defArgs (topS 34)) (defBody (topS 34)) (defScope (topS 34)) .none kV14 dc14 pm14 an14 cd14 ct14), sl14⟩) (c14 : PySem.W.codeIn K cd14 "beside" = true) (k14 : PySem.W.keepIn K (.ref f14) = true)
    {f15 : Addr} {oc15 kV15 dc15 pm15 cd15 ct15 : Value} {od15 an15 : Option Addr} {sl15 : Array (Option Value)}
    (a15 : PySem.W.nsIn K mainGlobals "_law_copy" = some (some (.ref f15))) (l15 : K.lookup f15 = some ⟨oc15, od15, .func (PySem.W.fnOf "_law_copy" "_law_copy" (defArgs (topS 40)) (defBody (topS 40)) (defScope (topS 40)) .none kV15 dc15 pm15 an15 cd15 ct15), sl15⟩) (c15 : PySem.W.codeIn K cd15 "_law_copy" = true) (k15 : PySem.W.keepIn K (.ref f15) = true)
    {f16 : Addr} {oc16 kV16 dc16 pm16 cd16 ct16 : Value} {od16 an16 : Option Addr} {sl16 : Array (Option Value)}
    (a16 : PySem.W.nsIn K mainGlobals "_law_ties" = some (some (.ref f16))) (l16 : K.lookup f16 = some ⟨oc16, od16, .func (PySem.W.fnOf "_law_ties" "_law_ties" (defArgs (topS 43)) (defBody (topS 43)) (defScope (topS 43)) .none kV16 dc16 pm16 an16 cd16 ct16), sl16⟩) (c16 : PySem.W.codeIn K cd16 "_law_ties" = true) (k16 : PySem.W.keepIn K (.ref f16) = true)
    {f17 : Addr} {oc17 kV17 dc17 pm17 cd17 ct17 : Value} {od17 an17 : Option Addr} {sl17 : Array (Option Value)}
    (a17 : PySem.W.nsIn K mainGlobals "_law_take" = some (some (.ref f17))) (l17 : K.lookup f17 = some ⟨oc17, od17, .func (PySem.W.fnOf "_law_take" "_law_take" (defArgs (topS 37)) (defBody (topS 37)) (defScope (topS 37)) .none kV17 dc17 pm17 an17 cd17 ct17), sl17⟩) (c17 : PySem.W.codeIn K cd17 "_law_take" = true) (k17 : PySem.W.keepIn K (.ref f17) = true)
    {f18 : Addr} {oc18 kV18 dc18 pm18 cd18 ct18 : Value} {od18 an18 : Option Addr} {sl18 : Array (Option Value)}
    (a18 : PySem.W.nsIn K mainGlobals "_law_dearer" = some (some (.ref f18))) (l18 : K.lookup f18 = some ⟨oc18, od18, .func (PySem.W.fnOf "_law_dearer" "_law_dearer" (defArgs (topS 42)) (defBody (topS 42)) (defScope (topS 42)) .none kV18 dc18 pm18 an18 cd18 ct18), sl18⟩) (c18 : PySem.W.codeIn K cd18 "_law_dearer" = true) (k18 : PySem.W.keepIn K (.ref f18) = true)
    {f19 : Addr} {oc19 kV19 dc19 pm19 cd19 ct19 : Value} {od19 an19 : Option Addr} {sl19 : Array (Option Value)}
    (a19 : PySem.W.nsIn K mainGlobals "_law_dealt" = some (some (.ref f19))) (l19 : K.lookup f19 = some ⟨oc19, od19, .func (PySem.W.fnOf "_law_dealt" "_law_dealt" (defArgs (topS 41)) (defBody (topS 41)) (defScope (topS 41)) .none kV19 dc19 pm19 an19 cd19 ct19), sl19⟩) (c19 : PySem.W.codeIn K cd19 "_law_dealt" = true) (k19 : PySem.W.keepIn K (.ref f19) = true)
    {f20 : Addr} {oc20 kV20 dc20 pm20 cd20 ct20 : Value} {od20 an20 : Option Addr} {sl20 : Array (Option Value)}
    (a20 : PySem.W.nsIn K mainGlobals "_law_begun" = some (some (.ref f20))) (l20 : K.lookup f20 = some ⟨oc20, od20, .func (PySem.W.fnOf "_law_begun" "_law_begun" (defArgs (topS 36)) (defBody (topS 36)) (defScope (topS 36)) .none kV20 dc20 pm20 an20 cd20 ct20), sl20⟩) (c20 : PySem.W.codeIn K cd20 "_law_begun" = true) (k20 : PySem.W.keepIn K (.ref f20) = true)
    {f21 : Addr} {oc21 kV21 dc21 pm21 cd21 ct21 : Value} {od21 an21 : Option Addr} {sl21 : Array (Option Value)}
    (a21 : PySem.W.nsIn K mainGlobals "_law_places" = some (some (.ref f21))) (l21 : K.lookup f21 = some ⟨oc21, od21, .func (PySem.W.fnOf "_law_places" "_law_places" (defArgs (topS 38)) (defBody (topS 38)) (defScope (topS 38)) .none kV21 dc21 pm21 an21 cd21 ct21), sl21⟩) (c21 : PySem.W.codeIn K cd21 "_law_places" = true) (k21 : PySem.W.keepIn K (.ref f21) = true)
    (z0 : PySem.W.nsIn K mainGlobals "all" = some none)
    (z1 : PySem.W.nsIn K mainGlobals "bool" = some none)
    (z2 : PySem.W.nsIn K mainGlobals "enumerate" = some none)
    (z3 : PySem.W.nsIn K mainGlobals "int" = some none)
    (z4 : PySem.W.nsIn K mainGlobals "isinstance" = some none)
    (z5 : PySem.W.nsIn K mainGlobals "len" = some none)
    (z6 : PySem.W.nsIn K mainGlobals "list" = some none)
    (z7 : PySem.W.nsIn K mainGlobals "range" = some none)
    (z8 : PySem.W.nsIn K mainGlobals "sorted" = some none)
    (z9 : PySem.W.nsIn K mainGlobals "str" = some none)
    (z10 : PySem.W.nsIn K mainGlobals "sum" = some none)
    (z11 : PySem.W.nsIn K mainGlobals "tuple" = some none)
    (z12 : PySem.W.nsIn K mainGlobals "zip" = some none)
    {t0 : Tok} (g0 : PySem.W.nsIn K mainGlobals "LAST_PLACE" = some (some (.int 999 t0)))
    {t1 : Tok} (g1 : PySem.W.nsIn K mainGlobals "MOST_PLACES" = some (some (.int 40 t1)))
    {t2 : Tok} (g2 : PySem.W.nsIn K mainGlobals "MOST_PRICES" = some (some (.int 1000000000000 t2)))
    {t3 : Tok} (g3 : PySem.W.nsIn K mainGlobals "MOST_TIES" = some (some (.int 120 t3)))
    {C0 : Addr} (cn0 : PySem.W.nsIn K mainGlobals "NoJoin" = some (some (.ref C0)))
    {C1 : Addr} (cn1 : PySem.W.nsIn K mainGlobals "NoWeb" = some (some (.ref C1)))
    {C2 : Addr} (cn2 : PySem.W.nsIn K mainGlobals "Bare" = some (some (.ref C2)))
    {C3 : Addr} (cn3 : PySem.W.nsIn K mainGlobals "NoCalls" = some (some (.ref C3)))
    {C4 : Addr} (cn4 : PySem.W.nsIn K mainGlobals "NoDeed" = some (some (.ref C4)))
    {C5 : Addr} (cn5 : PySem.W.nsIn K mainGlobals "NoName" = some (some (.ref C5)))
    {C6 : Addr} (cn6 : PySem.W.nsIn K mainGlobals "NoPlace" = some (some (.ref C6)))
    {C7 : Addr} (cn7 : PySem.W.nsIn K mainGlobals "NoRows" = some (some (.ref C7)))
    {C8 : Addr} (cn8 : PySem.W.nsIn K mainGlobals "NoSay" = some (some (.ref C8)))
    {C9 : Addr} (cn9 : PySem.W.nsIn K mainGlobals "NoSet" = some (some (.ref C9)))
    {C10 : Addr} (cn10 : PySem.W.nsIn K mainGlobals "NoStep" = some (some (.ref C10)))
    {C11 : Addr} (cn11 : PySem.W.nsIn K mainGlobals "NoText" = some (some (.ref C11)))
    {C12 : Addr} (cn12 : PySem.W.nsIn K mainGlobals "NoTree" = some (some (.ref C12)))
    {C13 : Addr} (cn13 : PySem.W.nsIn K mainGlobals "NotForest" = some (some (.ref C13)))
    {C14 : Addr} (cn14 : PySem.W.nsIn K mainGlobals "NotTwo" = some (some (.ref C14)))
    {C15 : Addr} (cn15 : PySem.W.nsIn K mainGlobals "Overpaid" = some (some (.ref C15)))
    {C16 : Addr} (cn16 : PySem.W.nsIn K mainGlobals "TooMany" = some (some (.ref C16)))
    {C17 : Addr} (cn17 : PySem.W.nsIn K mainGlobals "TooWide" = some (some (.ref C17)))
    {C18 : Addr} (cn18 : PySem.W.nsIn K mainGlobals "TouchError" = some (some (.ref C18)))
    (F0 : ClsF K C0) (ty0 : PySem.W.typeIn K (.ref C0) = some (.type "type")) (kp0 : PySem.W.keepIn K (.ref C0) = true)
    (ei0 : PySem.W.excIn K C0 veL "ValueError.__new__" = true)
    (F1 : ClsF K C1) (ty1 : PySem.W.typeIn K (.ref C1) = some (.type "type")) (kp1 : PySem.W.keepIn K (.ref C1) = true)
    (no1_0 : PySem.W.findIn K (.ref C1) "part" = some none)
    (no1_1 : PySem.W.findIn K (.ref C1) "number" = some none)
    {qc1 qq1 : Str} {N1 : Addr} {bs1 bm1 : List Value} {sn1 : List Str} {su1 : List Value} {ab1 : Bool} {co1 : Option Bool} {dd1 : Option Addr} {ka1 kb1 kc1 kd1 ke1 : Option Value} (lc1 : K.lookup C1 = some (excClassObj qc1 qq1 C1 N1 bs1 bm1 true sn1 su1 ab1 co1 dd1 ka1 kb1 kc1 kd1 ke1 "ValueError.__new__")) (rv1 : PySem.HandSPX.refsVE bm1 = true)
    (sa1 : PySem.W.findIn K (.ref C1) "__setattr__" = some (some (.builtin "object.__setattr__"))) {fi1 : Addr} (ii1 : PySem.W.findIn K (.ref C1) "__init__" = some (some (.ref fi1))) (ti1 : PySem.W.typeIn K (.ref fi1) = some (.type "function"))
    {oi1 kv1 di1 pi1 vi1 wi1 : Value} {xi1 yi1 : Option Addr} {zi1 : Array (Option Value)} (li1 : K.lookup fi1 = some ⟨oi1, xi1, .func (PySem.W.fnOf "__init__" "NoWeb.__init__" (defArgs (iniS (topS 2))) (defBody (iniS (topS 2))) (defScope (iniS (topS 2))) .none kv1 di1 pi1 yi1 vi1 wi1), zi1⟩) (ci1 : PySem.W.codeIn K vi1 "NoWeb.__init__" = true)
    (A0 : AskC K C0)
    (A1 : AskC K C1)
    (A2 : AskC K C2)
    (A3 : AskC K C3)
    (A4 : AskC K C4)
    (A5 : AskC K C5)
    (A6 : AskC K C6)
    (A7 : AskC K C7)
    (A8 : AskC K C8)
    (A9 : AskC K C9)
    (A10 : AskC K C10)
    (A11 : AskC K C11)
    (A12 : AskC K C12)
    (A13 : AskC K C13)
    (A14 : AskC K C14)
    (A15 : AskC K C15)
    (A16 : AskC K C16)
    (A17 : AskC K C17)
    (A18 : AskC K C18)
    (xs0 : PySem.W.subIn K (.ref C0) (.ref C1) = some false)
    (xs1 : PySem.W.subIn K (.ref C1) (.ref C1) = some true)
    (xs2 : PySem.W.subIn K (.ref C0) (.ref C6) = some false)
    (xs3 : PySem.W.subIn K (.ref C0) (.ref C7) = some false)
    (xs4 : PySem.W.subIn K (.ref C0) (.ref C15) = some false)
    (xs5 : PySem.W.subIn K (.ref C0) (.ref C10) = some false)
    (xs6 : PySem.W.subIn K (.ref C0) (.ref C12) = some false)
    (xs7 : PySem.W.subIn K (.ref C0) (.ref C14) = some false)
    (xs8 : PySem.W.subIn K (.ref C0) (.ref C13) = some false)
    (xs9 : PySem.W.subIn K (.ref C0) (.ref C17) = some false)
    (xs10 : PySem.W.subIn K (.ref C0) (.ref C11) = some false)
    (xs11 : PySem.W.subIn K (.ref C0) (.ref C9) = some false)
    (xs12 : PySem.W.subIn K (.ref C0) (.ref C3) = some false)
    (xs13 : PySem.W.subIn K (.ref C0) (.ref C16) = some false)
    (xs14 : PySem.W.subIn K (.ref C0) (.ref C4) = some false)
    (xs15 : PySem.W.subIn K (.ref C0) (.ref C2) = some false)
    (xs16 : PySem.W.subIn K (.ref C0) (.ref C8) = some false)
    (xs17 : PySem.W.subIn K (.ref C0) (.ref C5) = some false)
    (xs18 : PySem.W.subIn K (.ref C0) (.ref C18) = some true)
    (xs19 : PySem.W.subIn K (.ref C1) (.ref C18) = some true)
    (xs20 : PySem.W.subIn K (.ref C0) (.ref C0) = some true)
    (xs21 : PySem.W.subIn K (.ref C1) (.ref C0) = some false)
    {xf0 : Addr} {xoc0 xkV0 xdc0 xpm0 xcd0 xct0 : Value} {xod0 xan0 : Option Addr} {xsl0 : Array (Option Value)}
    (xa0 : PySem.W.nsIn K mainGlobals "_law_others" = some (some (.ref xf0))) (xl0 : K.lookup xf0 = some ⟨xoc0, xod0, .func (PySem.W.fnOf "_law_others" "_law_others" (defArgs (topS 44)) (defBody (topS 44)) (defScope (topS 44)) .none xkV0 xdc0 xpm0 xan0 xcd0 xct0), xsl0⟩) (xc0 : PySem.W.codeIn K xcd0 "_law_others" = true) (xk0 : PySem.W.keepIn K (.ref xf0) = true)
    : ∃ fd : FuncData, (∀ (s : Shared) (u : Value), BindsTo s fd ⟨[u], []⟩ [("_law_script", u)]) ∧ ∀ base : Heap, K.In base → base.Ns mainGlobals mg → FnOk PySem.Challenge.pw_touchall_k07_webs_beside w K mg base (L2.CX PySem.Challenge.pw_touchall_k07_webs_beside w) (fuel + 2) fa fd ["_law_script"] (spLaw K) := by
  have at_ : ∀ e ∈ tbl, EntAt K mg e := by
    intro e he
    simp only [tbl, List.mem_cons, List.not_mem_nil, or_false] at he
    rcases he with rfl | rfl | rfl | rfl | rfl | rfl | rfl | rfl | rfl | rfl | rfl | rfl | rfl | rfl | rfl | rfl | rfl | rfl | rfl | rfl | rfl | rfl
    · exact ent_mk (e := e0) X G a0 l0 c0 k0 bnd0
    · exact ent_mk (e := e1) X G a1 l1 c1 k1 bnd1
    · exact ent_mk (e := e2) X G a2 l2 c2 k2 bnd2
    · exact ent_mk (e := e3) X G a3 l3 c3 k3 bnd3
    · exact ent_mk (e := e4) X G a4 l4 c4 k4 bnd4
    · exact ent_mk (e := e5) X G a5 l5 c5 k5 bnd5
    · exact ent_mk (e := e6) X G a6 l6 c6 k6 bnd6
    · exact ent_mk (e := e7) X G a7 l7 c7 k7 bnd7
    · exact ent_mk (e := e8) X G a8 l8 c8 k8 bnd8
    · exact ent_mk (e := e9) X G a9 l9 c9 k9 bnd9
    · exact ent_mk (e := e10) X G a10 l10 c10 k10 bnd10
    · exact ent_mk (e := e11) X G a11 l11 c11 k11 bnd11
    · exact ent_mk (e := e12) X G a12 l12 c12 k12 bnd12
    · exact ent_mk (e := e13) X G a13 l13 c13 k13 bnd13
    · exact ent_mk (e := e14) X G a14 l14 c14 k14 bnd14
    · exact ent_mk (e := e15) X G a15 l15 c15 k15 bnd15
    · exact ent_mk (e := e16) X G a16 l16 c16 k16 bnd16
    · exact ent_mk (e := e17) X G a17 l17 c17 k17 bnd17
    · exact ent_mk (e := e18) X G a18 l18 c18 k18 bnd18
    · exact ent_mk (e := e19) X G a19 l19 c19 k19 bnd19
    · exact ent_mk (e := e20) X G a20 l20 c20 k20 bnd20
    · exact ent_mk (e := e21) X G a21 l21 c21 k21 bnd21
  have hb : ∀ x ∈ blts, mg x = none := by
    intro x hx
    simp only [blts, List.mem_cons, List.not_mem_nil, or_false] at hx
    rcases hx with rfl | rfl | rfl | rfl | rfl | rfl | rfl | rfl | rfl | rfl | rfl | rfl | rfl
    · exact PySem.W.mg_none_of X G z0
    · exact PySem.W.mg_none_of X G z1
    · exact PySem.W.mg_none_of X G z2
    · exact PySem.W.mg_none_of X G z3
    · exact PySem.W.mg_none_of X G z4
    · exact PySem.W.mg_none_of X G z5
    · exact PySem.W.mg_none_of X G z6
    · exact PySem.W.mg_none_of X G z7
    · exact PySem.W.mg_none_of X G z8
    · exact PySem.W.mg_none_of X G z9
    · exact PySem.W.mg_none_of X G z10
    · exact PySem.W.mg_none_of X G z11
    · exact PySem.W.mg_none_of X G z12
  have hg : ∀ x t, (x, t) ∈ glo → ∃ u, mg x = some u ∧ relG t u := by
    intro x t hx
    simp only [glo, List.mem_cons, List.not_mem_nil, or_false, Prod.mk.injEq] at hx
    rcases hx with ⟨rfl, rfl⟩ | ⟨rfl, rfl⟩ | ⟨rfl, rfl⟩ | ⟨rfl, rfl⟩
    · exact ⟨_, PySem.W.mg_of X G g0, _, rfl⟩
    · exact ⟨_, PySem.W.mg_of X G g1, _, rfl⟩
    · exact ⟨_, PySem.W.mg_of X G g2, _, rfl⟩
    · exact ⟨_, PySem.W.mg_of X G g3, _, rfl⟩
  have hc : ∀ base : Heap, ∀ c ∈ clss, ClsX PySem.Challenge.pw_touchall_k07_webs_beside w K mg base c := by
    intro base c hc
    simp only [clss, List.mem_cons, List.not_mem_nil, or_false] at hc
    rcases hc with rfl | rfl
    · exact cls_own (PySem.W.mg_of X G cn0) F0 ei0 ty0 kp0
    · exact cls_ini (st := iniS (topS 2)) (PySem.W.mg_of X G cn1) F1 (fun f hf => by simp only [List.mem_cons, List.not_mem_nil, or_false] at hf; rcases hf with rfl | rfl <;> assumption) lc1 rv1 sa1 ty1 kp1 ii1 ti1 iniB1 iniS1 iniV1 li1 ci1 iniA1
  have hs : ∀ c d b, (c, d, b) ∈ subs → SubX K mg c d b := by
    intro c d b h
    simp only [subs, List.mem_cons, List.not_mem_nil, or_false, Prod.mk.injEq] at h
    rcases h with ⟨rfl, rfl, rfl⟩ | ⟨rfl, rfl, rfl⟩ | ⟨rfl, rfl, rfl⟩ | ⟨rfl, rfl, rfl⟩ | ⟨rfl, rfl, rfl⟩ | ⟨rfl, rfl, rfl⟩ | ⟨rfl, rfl, rfl⟩ | ⟨rfl, rfl, rfl⟩ | ⟨rfl, rfl, rfl⟩ | ⟨rfl, rfl, rfl⟩ | ⟨rfl, rfl, rfl⟩ | ⟨rfl, rfl, rfl⟩ | ⟨rfl, rfl, rfl⟩ | ⟨rfl, rfl, rfl⟩ | ⟨rfl, rfl, rfl⟩ | ⟨rfl, rfl, rfl⟩ | ⟨rfl, rfl, rfl⟩ | ⟨rfl, rfl, rfl⟩ | ⟨rfl, rfl, rfl⟩ | ⟨rfl, rfl, rfl⟩ | ⟨rfl, rfl, rfl⟩ | ⟨rfl, rfl, rfl⟩
    · exact ⟨C0, _, PySem.W.mg_of X G cn0, F0, .inl ⟨PySem.W.mg_of X G cn1, _, rfl⟩, ask_one A1 xs0⟩
    · exact ⟨C1, _, PySem.W.mg_of X G cn1, F1, .inl ⟨PySem.W.mg_of X G cn1, _, rfl⟩, ask_one A1 xs1⟩
    · exact ⟨C0, _, PySem.W.mg_of X G cn0, F0, .inl ⟨PySem.W.mg_of X G cn6, _, rfl⟩, ask_one A6 xs2⟩
    · exact ⟨C0, _, PySem.W.mg_of X G cn0, F0, .inl ⟨PySem.W.mg_of X G cn7, _, rfl⟩, ask_one A7 xs3⟩
    · exact ⟨C0, _, PySem.W.mg_of X G cn0, F0, .inl ⟨PySem.W.mg_of X G cn15, _, rfl⟩, ask_one A15 xs4⟩
    · exact ⟨C0, _, PySem.W.mg_of X G cn0, F0, .inl ⟨PySem.W.mg_of X G cn10, _, rfl⟩, ask_one A10 xs5⟩
    · exact ⟨C0, _, PySem.W.mg_of X G cn0, F0, .inl ⟨PySem.W.mg_of X G cn12, _, rfl⟩, ask_one A12 xs6⟩
    · exact ⟨C0, _, PySem.W.mg_of X G cn0, F0, .inl ⟨PySem.W.mg_of X G cn14, _, rfl⟩, ask_one A14 xs7⟩
    · exact ⟨C0, _, PySem.W.mg_of X G cn0, F0, .inl ⟨PySem.W.mg_of X G cn13, _, rfl⟩, ask_one A13 xs8⟩
    · exact ⟨C0, _, PySem.W.mg_of X G cn0, F0, .inl ⟨PySem.W.mg_of X G cn17, _, rfl⟩, ask_one A17 xs9⟩
    · exact ⟨C0, _, PySem.W.mg_of X G cn0, F0, .inl ⟨PySem.W.mg_of X G cn11, _, rfl⟩, ask_one A11 xs10⟩
    · exact ⟨C0, _, PySem.W.mg_of X G cn0, F0, .inl ⟨PySem.W.mg_of X G cn9, _, rfl⟩, ask_one A9 xs11⟩
    · exact ⟨C0, _, PySem.W.mg_of X G cn0, F0, .inl ⟨PySem.W.mg_of X G cn3, _, rfl⟩, ask_one A3 xs12⟩
    · exact ⟨C0, _, PySem.W.mg_of X G cn0, F0, .inl ⟨PySem.W.mg_of X G cn16, _, rfl⟩, ask_one A16 xs13⟩
    · exact ⟨C0, _, PySem.W.mg_of X G cn0, F0, .inl ⟨PySem.W.mg_of X G cn4, _, rfl⟩, ask_one A4 xs14⟩
    · exact ⟨C0, _, PySem.W.mg_of X G cn0, F0, .inl ⟨PySem.W.mg_of X G cn2, _, rfl⟩, ask_one A2 xs15⟩
    · exact ⟨C0, _, PySem.W.mg_of X G cn0, F0, .inl ⟨PySem.W.mg_of X G cn8, _, rfl⟩, ask_one A8 xs16⟩
    · exact ⟨C0, _, PySem.W.mg_of X G cn0, F0, .inl ⟨PySem.W.mg_of X G cn5, _, rfl⟩, ask_one A5 xs17⟩
    · exact ⟨C0, _, PySem.W.mg_of X G cn0, F0, .inl ⟨PySem.W.mg_of X G cn18, _, rfl⟩, ask_one A18 xs18⟩
    · exact ⟨C1, _, PySem.W.mg_of X G cn1, F1, .inl ⟨PySem.W.mg_of X G cn18, _, rfl⟩, ask_one A18 xs19⟩
    · exact ⟨C0, _, PySem.W.mg_of X G cn0, F0, .inl ⟨PySem.W.mg_of X G cn0, _, rfl⟩, ask_one A0 xs20⟩
    · exact ⟨C1, _, PySem.W.mg_of X G cn1, F1, .inl ⟨PySem.W.mg_of X G cn0, _, rfl⟩, ask_one A0 xs21⟩
  have hx : ∀ (base : Heap), ∀ f c b, (f, c, b) ∈ xfs → XfX PySem.Challenge.pw_touchall_k07_webs_beside w K mg base f c b := by
    intro base f c b h
    simp only [xfs, List.mem_cons, List.not_mem_nil, or_false, Prod.mk.injEq] at h
    rcases h with ⟨rfl, rfl, rfl⟩
    · exact xf_mk X G hs xa0 xl0 xc0 xk0 xbnd0 xS0 (hb _ (by simp [blts])) (PySem.W.mg_of X G cn0) F0 xch0
  obtain ⟨fd, h1, h2⟩ := law_tab (P := PySem.Challenge.pw_touchall_k07_webs_beside) (w := w) (k := fuel) (f := 0) (e := e0) ok_all at_ hb hg hc hs hx rfl rfl hfa law_pure
  exact ⟨fd, h1, fun base _ _ => h2 base⟩
end My
open PySem PySem.W PyProof.Rows
set_option maxHeartbeats 0 in
theorem PySem.Challenge.cw_touchall_k07_webs_beside_holds : PySem.Challenge.rw_touchall_k07_webs_beside.Holds := by
  w_on; o_law; k_head; (case hw => w_witness2)
  k_fill
  refine L2.walk_of (l := PySem.Challenge.rw_touchall_k07_webs_beside) (n := 63) (k := My.fuel + 2) (x := "_law_script") (CX := fun w => L2.CX PySem.Challenge.pw_touchall_k07_webs_beside w) (sp := fun w => MI.spLaw _) rfl (by decide) rfl ⟨rfl, by decide, by decide⟩ (fun w h Y => PySem.W.kIn_of Y) ?F (fun _ _ a ns hl _ hS => ⟨a, ns, rfl, hS, hl, fun _ => rfl⟩) (fun _ _ _ _ _ ⟨_, _, _, _, _, _, _, _, _, _, _, _, h⟩ => h)
  case F =>
    intro w mg fa h KX G hmg
    refine' My.fin KX G hmg ?aa0 ?ll0 ?cc0 ?kk0 ?aa1 ?ll1 ?cc1 ?kk1 ?aa2 ?ll2 ?cc2 ?kk2 ?aa3 ?ll3 ?cc3 ?kk3 ?aa4 ?ll4 ?cc4 ?kk4 ?aa5 ?ll5 ?cc5 ?kk5 ?aa6 ?ll6 ?cc6 ?kk6 ?aa7 ?ll7 ?cc7 ?kk7 ?aa8 ?ll8 ?cc8 ?kk8 ?aa9 ?ll9 ?cc9 ?kk9 ?aa10 ?ll10 ?cc10 ?kk10 ?aa11 ?ll11 ?cc11 ?kk11 ?aa12 ?ll12 ?cc12 ?kk12 ?aa13 ?ll13 ?cc13 ?kk13 ?aa14 ?ll14 ?cc14 ?kk14 ?aa15 ?ll15 ?cc15 ?kk15 ?aa16 ?ll16 ?cc16 ?kk16 ?aa17 ?ll17 ?cc17 ?kk17 ?aa18 ?ll18 ?cc18 ?kk18 ?aa19 ?ll19 ?cc19 ?kk19 ?aa20 ?ll20 ?cc20 ?kk20 ?aa21 ?ll21 ?cc21 ?kk21 ?zz0 ?zz1 ?zz2 ?zz3 ?zz4 ?zz5 ?zz6 ?zz7 ?zz8 ?zz9 ?zz10 ?zz11 ?zz12 ?gg0 ?gg1 ?gg2 ?gg3 ?cn0 ?cn1 ?cn2 ?cn3 ?cn4 ?cn5 ?cn6 ?cn7 ?cn8 ?cn9 ?cn10 ?cn11 ?cn12 ?cn13 ?cn14 ?cn15 ?cn16 ?cn17 ?cn18 ⟨?f0a, ?f0b, ?f0c, ?f0d, ?f0e, ?f0f, ?f0g, ?f0h, ?f0i⟩ ?ty0 ?kp0 ?ei0 ⟨?f1a, ?f1b, ?f1c, ?f1d, ?f1e, ?f1f, ?f1g, ?f1h, ?f1i⟩ ?ty1 ?kp1 ?no1_0 ?no1_1 ?lc1 ?rv1 ?sa1 ?ii1 ?ti1 ?li1 ?ci1 ⟨?a0p, ?a0q, ?a0r, ?a0s⟩ ⟨?a1p, ?a1q, ?a1r, ?a1s⟩ ⟨?a2p, ?a2q, ?a2r, ?a2s⟩ ⟨?a3p, ?a3q, ?a3r, ?a3s⟩ ⟨?a4p, ?a4q, ?a4r, ?a4s⟩ ⟨?a5p, ?a5q, ?a5r, ?a5s⟩ ⟨?a6p, ?a6q, ?a6r, ?a6s⟩ ⟨?a7p, ?a7q, ?a7r, ?a7s⟩ ⟨?a8p, ?a8q, ?a8r, ?a8s⟩ ⟨?a9p, ?a9q, ?a9r, ?a9s⟩ ⟨?a10p, ?a10q, ?a10r, ?a10s⟩ ⟨?a11p, ?a11q, ?a11r, ?a11s⟩ ⟨?a12p, ?a12q, ?a12r, ?a12s⟩ ⟨?a13p, ?a13q, ?a13r, ?a13s⟩ ⟨?a14p, ?a14q, ?a14r, ?a14s⟩ ⟨?a15p, ?a15q, ?a15r, ?a15s⟩ ⟨?a16p, ?a16q, ?a16r, ?a16s⟩ ⟨?a17p, ?a17q, ?a17r, ?a17s⟩ ⟨?a18p, ?a18q, ?a18r, ?a18s⟩ ?xs0 ?xs1 ?xs2 ?xs3 ?xs4 ?xs5 ?xs6 ?xs7 ?xs8 ?xs9 ?xs10 ?xs11 ?xs12 ?xs13 ?xs14 ?xs15 ?xs16 ?xs17 ?xs18 ?xs19 ?xs20 ?xs21 ?xa0 ?xl0 ?xc0 ?xk0
    (case aa0 => k_is); (case ll0 => k_is); (case cc0 => k_is); (case kk0 => k_is)
    (case aa1 => k_is); (case ll1 => k_is); (case cc1 => k_is); (case kk1 => k_is)
    (case aa2 => k_is); (case ll2 => k_is); (case cc2 => k_is); (case kk2 => k_is)
    (case aa3 => k_is); (case ll3 => k_is); (case cc3 => k_is); (case kk3 => k_is)
    (case aa4 => k_is); (case ll4 => k_is); (case cc4 => k_is); (case kk4 => k_is)
    (case aa5 => k_is); (case ll5 => k_is); (case cc5 => k_is); (case kk5 => k_is)
    (case aa6 => k_is); (case ll6 => k_is); (case cc6 => k_is); (case kk6 => k_is)
    (case aa7 => k_is); (case ll7 => k_is); (case cc7 => k_is); (case kk7 => k_is)
    (case aa8 => k_is); (case ll8 => k_is); (case cc8 => k_is); (case kk8 => k_is)
    (case aa9 => k_is); (case ll9 => k_is); (case cc9 => k_is); (case kk9 => k_is)
    (case aa10 => k_is); (case ll10 => k_is); (case cc10 => k_is); (case kk10 => k_is)
    (case aa11 => k_is); (case ll11 => k_is); (case cc11 => k_is); (case kk11 => k_is)
    (case aa12 => k_is); (case ll12 => k_is); (case cc12 => k_is); (case kk12 => k_is)
    (case aa13 => k_is); (case ll13 => k_is); (case cc13 => k_is); (case kk13 => k_is)
    (case aa14 => k_is); (case ll14 => k_is); (case cc14 => k_is); (case kk14 => k_is)
    (case aa15 => k_is); (case ll15 => k_is); (case cc15 => k_is); (case kk15 => k_is)
    (case aa16 => k_is); (case ll16 => k_is); (case cc16 => k_is); (case kk16 => k_is)
    (case aa17 => k_is); (case ll17 => k_is); (case cc17 => k_is); (case kk17 => k_is)
    (case aa18 => k_is); (case ll18 => k_is); (case cc18 => k_is); (case kk18 => k_is)
    (case aa19 => k_is); (case ll19 => k_is); (case cc19 => k_is); (case kk19 => k_is)
    (case aa20 => k_is); (case ll20 => k_is); (case cc20 => k_is); (case kk20 => k_is)
    (case aa21 => k_is); (case ll21 => k_is); (case cc21 => k_is); (case kk21 => k_is)
    (case zz0 => k_is); (case zz1 => k_is); (case zz2 => k_is); (case zz3 => k_is); (case zz4 => k_is); (case zz5 => k_is); (case zz6 => k_is); (case zz7 => k_is); (case zz8 => k_is); (case zz9 => k_is); (case zz10 => k_is); (case zz11 => k_is); (case zz12 => k_is); (case gg0 => k_is); (case gg1 => k_is); (case gg2 => k_is); (case gg3 => k_is)
    (case cn0 => k_is); (case cn1 => k_is); (case cn2 => k_is); (case cn3 => k_is); (case cn4 => k_is); (case cn5 => k_is); (case cn6 => k_is); (case cn7 => k_is); (case cn8 => k_is); (case cn9 => k_is); (case cn10 => k_is); (case cn11 => k_is); (case cn12 => k_is); (case cn13 => k_is); (case cn14 => k_is); (case cn15 => k_is); (case cn16 => k_is); (case cn17 => k_is); (case cn18 => k_is); (case f0a => k_is); (case f0b => k_is); (case f0c => k_is); (case f0d => k_is); (case f0e => k_is); (case f0f => k_is); (case f0g => k_is); (case f0h => k_is); (case f0i => k_is); (case ty0 => k_is); (case kp0 => k_is); (case ei0 => k_exc); (case f1a => k_is); (case f1b => k_is); (case f1c => k_is); (case f1d => k_is); (case f1e => k_is); (case f1f => k_is); (case f1g => k_is); (case f1h => k_is); (case f1i => k_is); (case ty1 => k_is); (case kp1 => k_is); (case no1_0 => k_is); (case no1_1 => k_is); (case lc1 => k_is); (case rv1 => decide +kernel); (case sa1 => k_is); (case ii1 => k_is); (case ti1 => k_is); (case li1 => k_is); (case ci1 => k_is); (case a0p => k_is); (case a0q => k_is); (case a0r => k_is); (case a0s => k_is); (case a1p => k_is); (case a1q => k_is); (case a1r => k_is); (case a1s => k_is); (case a2p => k_is); (case a2q => k_is); (case a2r => k_is); (case a2s => k_is); (case a3p => k_is); (case a3q => k_is); (case a3r => k_is); (case a3s => k_is); (case a4p => k_is); (case a4q => k_is); (case a4r => k_is); (case a4s => k_is); (case a5p => k_is); (case a5q => k_is); (case a5r => k_is); (case a5s => k_is); (case a6p => k_is); (case a6q => k_is); (case a6r => k_is); (case a6s => k_is); (case a7p => k_is); (case a7q => k_is); (case a7r => k_is); (case a7s => k_is); (case a8p => k_is); (case a8q => k_is); (case a8r => k_is); (case a8s => k_is); (case a9p => k_is); (case a9q => k_is); (case a9r => k_is); (case a9s => k_is); (case a10p => k_is); (case a10q => k_is); (case a10r => k_is); (case a10s => k_is); (case a11p => k_is); (case a11q => k_is); (case a11r => k_is); (case a11s => k_is); (case a12p => k_is); (case a12q => k_is); (case a12r => k_is); (case a12s => k_is); (case a13p => k_is); (case a13q => k_is); (case a13r => k_is); (case a13s => k_is); (case a14p => k_is); (case a14q => k_is); (case a14r => k_is); (case a14s => k_is); (case a15p => k_is); (case a15q => k_is); (case a15r => k_is); (case a15s => k_is); (case a16p => k_is); (case a16q => k_is); (case a16r => k_is); (case a16s => k_is); (case a17p => k_is); (case a17q => k_is); (case a17r => k_is); (case a17s => k_is); (case a18p => k_is); (case a18q => k_is); (case a18r => k_is); (case a18s => k_is); (case xs0 => k_is); (case xs1 => k_is); (case xs2 => k_is); (case xs3 => k_is); (case xs4 => k_is); (case xs5 => k_is); (case xs6 => k_is); (case xs7 => k_is); (case xs8 => k_is); (case xs9 => k_is); (case xs10 => k_is); (case xs11 => k_is); (case xs12 => k_is); (case xs13 => k_is); (case xs14 => k_is); (case xs15 => k_is); (case xs16 => k_is); (case xs17 => k_is); (case xs18 => k_is); (case xs19 => k_is); (case xs20 => k_is); (case xs21 => k_is); (case xa0 => k_is); (case xl0 => k_is); (case xc0 => k_is); (case xk0 => k_is)
