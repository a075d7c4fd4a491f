import PyProof.Rows.All
import Wide.All
import OpenK.AllK
import Wide.FinOn
import PyProof.EqAt
import PyProof.EqKinds
import PyProof.TupleCall
import HandS.ForMost
import HandS.Lambda
import HandS.Wide
import HandS.WideMore
import HandS.WideBits
import HandS.Conv
import HandS.Zip
import HandS.IsInst
import HandS.TupAny
import HandS.TryMany
import HandS.ExcField
import HandS.Defaults
import HandS.HeadWalk
import HandS.HeadHook4
import HandS.Head2
import HandS.Flow
import HandS.Deep
import HandS.Rev
import HandS.Style
import HandS.Small
import HandS.ExcOwn
import HandS.TupLe
import HandS.TupMul
import HandS.NoneIn
import HandS.WordsDict
import HandS.DictComp
import HandS.SetFor
import KE.KExcSuper
import HandS.ExcSuper
import HandS.Exc
import KE.GoesEnum
import KE.DataAny
import PyProof.StrBlock2
import PyProof.ListIndex
import HandS.ExcIs
import KE.KExcIs
import PyProof.AutoSeq1
import PyProof.P3Eq
import PyProof.ReprText
import PyProof.SumAny
import PyProof.Rows.SumAny
import PyProof.WalkInts
import PyProof.InstNe
import HandS.NamedTupSort
import HandS.OwnEq
import PySem.Challenge.RW_keptwhole_k05_tables_and_sums
import PyProof.ReprBulk
set_option Elab.async false
set_option linter.all false
set_option maxRecDepth 100000
/-! Kw: Python code as plain functions over data: D (data), Mem (what changes), Out (how a piece of code ends); a piece of code does what its function says: the reading tE, over HandS. -/
namespace Kw
open PySem PySem.Spec PyProof.Rows L2

/-- data: what never changes (lst, dct: a list, a dict that nothing changes any more), or the place of a thing that changes -/
inductive D where
  | non | bl (b : Bool) | int (i : Int) | str (x : Str)
  | tup (xs : List D) | lst (xs : List D)
  | dct (kvs : List (D × D))
  /-- a list, a dict that is read alone: the script, a module's list, what a caller lent -/
  | scr (xs : List D) | brd (kvs : List (D × D))
  | loc (l : Nat)
  /-- an own class, a def: by its global name; a built-in class by its name -/
  | glb (x : Str) | ty (n : String)
  /-- an instance that nothing changes any more: class, fields' names, fields -/
  | ins (c : Str) (ns : List Str) (xs : List D)
  /-- the def's argument that is a lambda; the exception that a suite holds -/
  | lam | exc (c : Str) (fs : List (Str × D))

/-- a thing that changes -/
inductive Ob where
  | lst (xs : List D)
  | dct (kvs : List (D × D))
  | ins (c : Str) (fs : List (Str × D))
  /-- it never changes again: laid for good -/
  | gone

/-- an exception: its class, its fields -/
structure Xn where
  cls : Str
  fs : List (Str × D)

abbrev Mem := List Ob
abbrev Sv := List (Option D)

inductive Out (α : Type) where
  | ok (a : α) (μ : Mem)
  | exc (x : Xn) (μ : Mem)
  | stuck

/-- the world: where the places lie, what is laid for good, what callers lent (it stays), what is being made (it stays) -/
structure Wd where
  n : Nat
  ρ : Nat → Addr
  φ : Hp
  fr : Hp
  gr : Hp
structure Wd.Le (w w' : Wd) : Prop where
  n : w.n ≤ w'.n
  ρ : ∀ l, l < w.n → w'.ρ l = w.ρ l
  φ : ∀ a o, w.φ a = some o → w'.φ a = some o
  fr : w'.fr = w.fr
  gr : w'.gr = w.gr
/-- .. what is being made apart -/
structure Wd.Lw (w w' : Wd) : Prop where
  n : w.n ≤ w'.n
  ρ : ∀ l, l < w.n → w'.ρ l = w.ρ l
  φ : ∀ a o, w.φ a = some o → w'.φ a = some o
  fr : w'.fr = w.fr
theorem Wd.Le.lw {w w' : Wd} (l : w.Le w') : w.Lw w' := ⟨l.n, l.ρ, l.φ, l.fr⟩
theorem Wd.Lw.trans {a b c : Wd} (x : a.Lw b) (y : b.Lw c) : a.Lw c :=
  ⟨Nat.le_trans x.n y.n, fun l h => (y.ρ l (Nat.lt_of_lt_of_le h x.n)).trans (x.ρ l h), fun p o h => y.φ p o (x.φ p o h), y.fr.trans x.fr⟩
theorem Wd.Le.refl (w : Wd) : w.Le w := ⟨Nat.le_refl _, fun _ _ => rfl, fun _ _ h => h, rfl, rfl⟩
theorem Wd.Le.trans {a b c : Wd} (x : a.Le b) (y : b.Le c) : a.Le c :=
  ⟨Nat.le_trans x.n y.n, fun l h => (y.ρ l (Nat.lt_of_lt_of_le h x.n)).trans (x.ρ l h), fun p o h => y.φ p o (x.φ p o h), y.fr.trans x.fr, y.gr.trans x.gr⟩

section
variable (K : PySem.W.Frag) (mg : Str → Option Value) (w : Wd)
mutual
inductive RelD : D → V → Prop
  | non : RelD .non .non
  | bl (b : Bool) : RelD (.bl b) (.bl b)
  | int (i : Int) : RelD (.int i) (.int i)
  | str (x : Str) : RelD (.str x) (.str x)
  | tup {a : Addr} {vs : List V} {ds : List D} : SqT K w.φ a vs → RelDs ds vs → RelD (.tup ds) (.ref a)
  | lst {a : Addr} {vs : List V} {ds : List D} : w.φ a = some (.lst vs) → RelDs ds vs → RelD (.lst ds) (.ref a)
  | scr {a : Addr} {vs : List V} {ds : List D} : (SqL K w.φ a vs ∨ w.fr a = some (.lst vs)) → RelDs ds vs → RelD (.scr ds) (.ref a)
  | brd {a : Addr} {kvs : List (Key × V)} {ks ds : List D} : Rd w.fr a (.dK kvs) → ks = kvs.map (fun p => match p.1 with | .inl i => D.int i | .inr x => D.str x) → RelDs ds (kvs.map (·.2)) → RelD (.brd (ks.zip ds)) (.ref a)
  | dctK {a : Addr} {kvs : List (Key × V)} {ks ds : List D} : Rd w.φ a (.dK kvs) → ks = kvs.map (fun p => match p.1 with | .inl i => D.int i | .inr x => D.str x) → RelDs ds (kvs.map (·.2)) → RelD (.dct (ks.zip ds)) (.ref a)
  | loc {l : Nat} : l < w.n → RelD (.loc l) (.ref (w.ρ l))
  | glb {x : Str} {a : Addr} : mg x = some (.ref a) → RelD (.glb x) (.ref a)
  | ty (n : String) : RelD (.ty n) (.ty n)
  | ins {a C dx : Addr} {c : Str} {ns : List Str} {xs : List D} {gs : List (Str × V)} : mg c = some (.ref C) → w.φ a = some (.ins C dx gs) → gs.map (·.1) = ns → RelDs xs (gs.map (·.2)) → RelD (.ins c ns xs) (.ref a)
inductive RelDs : List D → List V → Prop
  | nil : RelDs [] []
  | cons {d : D} {ds : List D} {v : V} {vs : List V} : RelD d v → RelDs ds vs → RelDs (d :: ds) (v :: vs)
end
end

section
variable {K : PySem.W.Frag} {mg : Str → Option Value} {w w' : Wd}
theorem rd_mono {H H' : Hp} (e : ∀ a o, H a = some o → H' a = some o) {a : Addr} {o : HO} (h : Rd H a o) : Rd H' a o := h.elim (fun h => .inl (e _ _ h)) fun ⟨o', h⟩ => .inr ⟨o', e _ _ h⟩
theorem sqL_mono {H H' : Hp} (e : ∀ a o, H a = some o → H' a = some o) {a : Addr} {xs : List V} (h : SqL K H a xs) : SqL K H' a xs := h.elim (fun h => .inl (rd_mono e h)) .inr
theorem sqT_mono {H H' : Hp} (e : ∀ a o, H a = some o → H' a = some o) {a : Addr} {xs : List V} (h : SqT K H a xs) : SqT K H' a xs := h.elim (fun h => .inl (rd_mono e h)) .inr
theorem RelDs.length {ds : List D} {vs : List V} (h : RelDs K mg w ds vs) : ds.length = vs.length := by
  induction ds generalizing vs with
  | nil => cases h; rfl
  | cons d ds ih => cases h with | cons h1 h2 => simp [ih h2]
mutual
theorem RelD.monoW (le : w.Lw w') : ∀ {d : D} {v : V}, RelD K mg w d v → RelD K mg w' d v
  | _, _, .non => .non
  | _, _, .bl b => .bl b
  | _, _, .int i => .int i
  | _, _, .str x => .str x
  | _, _, .tup h r => .tup (sqT_mono le.φ h) (RelDs.monoW le r)
  | _, _, .lst h r => .lst (le.φ _ _ h) (RelDs.monoW le r)
  | _, _, .scr h r => .scr (h.elim (fun h => .inl (sqL_mono le.φ h)) fun h => .inr (by rw [le.fr]; exact h)) (RelDs.monoW le r)
  | _, _, .brd h e r => .brd (by rw [le.fr]; exact h) e (RelDs.monoW le r)
  | _, _, .dctK h e r => .dctK (rd_mono le.φ h) e (RelDs.monoW le r)
  | _, _, .loc (l := l) h => le.ρ l h ▸ .loc (Nat.lt_of_lt_of_le h le.n)
  | _, _, .glb h => .glb h
  | _, _, .ty n => .ty n
  | _, _, .ins g h e r => .ins g (le.φ _ _ h) e (RelDs.monoW le r)
theorem RelDs.monoW (le : w.Lw w') : ∀ {ds : List D} {vs : List V}, RelDs K mg w ds vs → RelDs K mg w' ds vs
  | _, _, .nil => .nil
  | _, _, .cons h t => .cons (RelD.monoW le h) (RelDs.monoW le t)
end
theorem RelD.mono (le : w.Le w') {d : D} {v : V} (h : RelD K mg w d v) : RelD K mg w' d v := RelD.monoW le.lw h
theorem RelDs.mono (le : w.Le w') {ds : List D} {vs : List V} (h : RelDs K mg w ds vs) : RelDs K mg w' ds vs := RelDs.monoW le.lw h
end
end Kw

set_option Elab.async false
set_option linter.all false
set_option maxRecDepth 100000
namespace Kw
open PySem PySem.Spec PyProof.Rows L2

/-! ### things that change, the memory, exceptions, slots -/
def keyD : Key → D
  | .inl i => .int i
  | .inr x => .str x
def RelFs (K : PySem.W.Frag) (mg : Str → Option Value) (w : Wd) (fs : List (Str × D)) (gs : List (Str × V)) : Prop := fs.map (·.1) = gs.map (·.1) ∧ RelDs K mg w (fs.map (·.2)) (gs.map (·.2))
inductive RelOb (K : PySem.W.Frag) (mg : Str → Option Value) (w : Wd) : Ob → Option HO → Prop
  | lst {xs : List D} {vs : List V} : RelDs K mg w xs vs → RelOb K mg w (.lst xs) (some (.lst vs))
  | dct {kvs : List (D × D)} {gs : List (Key × V)} : kvs.map (·.1) = gs.map (fun p => keyD p.1) → RelDs K mg w (kvs.map (·.2)) (gs.map (·.2)) → RelOb K mg w (.dct kvs) (some (.dK gs))
  | ins {c : Str} {fs : List (Str × D)} {C dx : Addr} {gs : List (Str × V)} : mg c = some (.ref C) → RelFs K mg w fs gs → RelOb K mg w (.ins c fs) (some (.ins C dx gs))
  | gone {o : HO} : RelOb K mg w .gone (some o)

structure RelM (K : PySem.W.Frag) (mg : Str → Option Value) (T : List (Addr × Str)) (w : Wd) (μ : Mem) (H : Hp) : Prop where
  n : w.n = μ.length
  φ : ∀ a o, w.φ a = some o → H a = some o
  fr : ∀ a o, w.fr a = some o → H a = some o
  gr : ∀ a o, w.gr a = some o → H a = some o
  dj : ∀ a o, w.fr a = some o → w.φ a = none
  dg : ∀ a o, w.gr a = some o → w.φ a = none ∧ w.fr a = none
  ob : ∀ l b, μ[l]? = some b → RelOb K mg w b (H (w.ρ l)) ∧ (b ≠ .gone → w.φ (w.ρ l) = none ∧ w.fr (w.ρ l) = none ∧ w.gr (w.ρ l) = none)
  gn : ∀ l, μ[l]? = some .gone → ∃ o, w.φ (w.ρ l) = some o
  inj : ∀ l l', l < w.n → l' < w.n → w.ρ l = w.ρ l' → l = l'
  tabs : LamX.Tabs T H
  nt : ∀ a ps, w.φ a ≠ some (.tbl ps) ∧ w.fr a ≠ some (.tbl ps) ∧ w.gr a ≠ some (.tbl ps) ∧ ∀ f, w.gr a ≠ some (.ext f)

def RelX (K : PySem.W.Frag) (mg : Str → Option Value) (w : Wd) (x : Xn) (cls : Value) (d : Option Addr) : Prop :=
  ∃ C dd gs, mg x.cls = some (.ref C) ∧ cls = .ref C ∧ d = some dd ∧ w.φ dd = some (.xd gs) ∧ RelFs K mg w x.fs gs

/-- what a body has beside its data: the lambda that it was given; the exception that a suite holds -/
structure SI where
  T : List (Addr × Str)
  lam : V := .non
  w0 : Wd := ⟨0, fun _ => 0, fun _ => none, fun _ => none, fun _ => none⟩
  exa : Addr := 0
  ecls : Value := .none
  edd : Option Addr := none

def RelS (K : PySem.W.Frag) (mg : Str → Option Value) (S : SI) (w : Wd) : D → V → Prop
  | .lam, v => v = S.lam ∧ S.w0.Lw w
  | .exc c fs, v => v = .ref S.exa ∧ RelX K mg w ⟨c, fs⟩ S.ecls S.edd
  | d, v => RelD K mg w d v
def RelSv (K : PySem.W.Frag) (mg : Str → Option Value) (S : SI) (w : Wd) (δ : Sv) (σ : L2.St) : Prop :=
  δ.length = σ.length ∧ ∀ (i : Nat) (d : D), δ[i]? = some (some d) → ∃ v, σ[i]? = some (some v) ∧ RelS K mg S w d v

section
variable {K : PySem.W.Frag} {mg : Str → Option Value} {w w' : Wd} {T : List (Addr × Str)} {S : SI} {μ : Mem} {H : Hp}
theorem RelFs.monoW (le : w.Lw w') {fs gs} (h : RelFs K mg w fs gs) : RelFs K mg w' fs gs := ⟨h.1, RelDs.monoW le h.2⟩
theorem RelOb.monoW (le : w.Lw w') {b : Ob} {o : Option HO} (h : RelOb K mg w b o) : RelOb K mg w' b o := by
  cases h with
  | lst r => exact .lst (RelDs.monoW le r)
  | dct e r => exact .dct e (RelDs.monoW le r)
  | ins e r => exact .ins e (r.monoW le)
  | gone => exact .gone
theorem RelX.monoW (le : w.Lw w') {x : Xn} {c : Value} {d : Option Addr} (h : RelX K mg w x c d) : RelX K mg w' x c d := by
  obtain ⟨C, dd, gs, a, b, c, d, e⟩ := h
  exact ⟨C, dd, gs, a, b, c, le.φ _ _ d, e.monoW le⟩
theorem RelS.monoW (le : w.Lw w') : ∀ {d : D} {v : V}, RelS K mg S w d v → RelS K mg S w' d v
  | .lam, _, h => ⟨h.1, h.2.trans le⟩
  | .exc _ _, _, h => ⟨h.1, h.2.monoW le⟩
  | .non, _, h => RelD.monoW (d := .non) le h
  | .bl _, _, h => RelD.monoW (d := .bl _) le h
  | .int _, _, h => RelD.monoW (d := .int _) le h
  | .str _, _, h => RelD.monoW (d := .str _) le h
  | .tup _, _, h => RelD.monoW (d := .tup _) le h
  | .lst _, _, h => RelD.monoW (d := .lst _) le h
  | .scr _, _, h => RelD.monoW (d := .scr _) le h
  | .brd _, _, h => RelD.monoW (d := .brd _) le h
  | .dct _, _, h => RelD.monoW (d := .dct _) le h
  | .loc _, _, h => RelD.monoW (d := .loc _) le h
  | .glb _, _, h => RelD.monoW (d := .glb _) le h
  | .ty _, _, h => RelD.monoW (d := .ty _) le h
  | .ins _ _ _, _, h => RelD.monoW (d := .ins _ _ _) le h
theorem RelFs.mono (le : w.Le w') {fs gs} (h : RelFs K mg w fs gs) : RelFs K mg w' fs gs := h.monoW le.lw
theorem RelOb.mono (le : w.Le w') {b : Ob} {o : Option HO} (h : RelOb K mg w b o) : RelOb K mg w' b o := h.monoW le.lw
theorem RelX.mono (le : w.Le w') {x : Xn} {c : Value} {d : Option Addr} (h : RelX K mg w x c d) : RelX K mg w' x c d := h.monoW le.lw
theorem RelS.mono (le : w.Le w') {d : D} {v : V} (h : RelS K mg S w d v) : RelS K mg S w' d v := h.monoW le.lw
theorem RelS.of : ∀ {d : D} {v : V}, RelD K mg w d v → RelS K mg S w d v
  | .non, _, h => h
  | .bl _, _, h => h
  | .int _, _, h => h
  | .str _, _, h => h
  | .tup _, _, h => h
  | .lst _, _, h => h
  | .scr _, _, h => h
  | .brd _, _, h => h
  | .dct _, _, h => h
  | .loc _, _, h => h
  | .glb _, _, h => h
  | .ty _, _, h => h
  | .ins _ _ _, _, h => h
  | .lam, _, h => nomatch h
  | .exc _ _, _, h => nomatch h
theorem RelSv.monoW (le : w.Lw w') {δ : Sv} {σ : L2.St} (h : RelSv K mg S w δ σ) : RelSv K mg S w' δ σ :=
  ⟨h.1, fun i d e => let ⟨v, a, b⟩ := h.2 i d e; ⟨v, a, b.monoW le⟩⟩
theorem RelSv.mono (le : w.Le w') {δ : Sv} {σ : L2.St} (h : RelSv K mg S w δ σ) : RelSv K mg S w' δ σ := h.monoW le.lw
theorem RelSv.set {δ : Sv} {σ : L2.St} (h : RelSv K mg S w δ σ) (i : Nat) {d : D} {v : V} (r : RelD K mg w d v) : RelSv K mg S w (δ.set i (some d)) (σ.set i (some v)) := by
  refine ⟨by simp [h.1], fun j e he => ?_⟩
  by_cases hj : i = j
  · subst hj
    by_cases hl : i < δ.length
    · rw [List.getElem?_set_self hl] at he
      cases he
      exact ⟨v, List.getElem?_set_self (by rw [← h.1]; exact hl), .of r⟩
    · rw [List.getElem?_eq_none (by simpa using hl)] at he
      cases he
  · rw [List.getElem?_set_ne hj] at he
    rw [List.getElem?_set_ne hj]
    exact h.2 j e he

/-! ### laying, changing -/
/-- the world where o is laid at p for good -/
def Wd.lay (w : Wd) (p : Addr) (o : HO) : Wd := { w with φ := upd w.φ p o }
/-- .. where a new place lies at p -/
def Wd.put (w : Wd) (p : Addr) : Wd := { w with n := w.n + 1, ρ := fun l => if l = w.n then p else w.ρ l }

theorem RelM.free (r : RelM K mg T w μ H) {p : Addr} (hp : H p = none) : w.φ p = none ∧ w.fr p = none ∧ w.gr p = none ∧ ∀ l, l < w.n → w.ρ l ≠ p := by
  refine ⟨?_, ?_, ?_, fun l hl e => ?_⟩
  · cases q : w.φ p with
    | none => rfl
    | some o => rw [r.φ p o q] at hp; cases hp
  · cases q : w.fr p with
    | none => rfl
    | some o => rw [r.fr p o q] at hp; cases hp
  · cases q : w.gr p with
    | none => rfl
    | some o => rw [r.gr p o q] at hp; cases hp
  · have hl' : l < μ.length := r.n ▸ hl
    have q := (r.ob l μ[l] (List.getElem?_eq_getElem hl')).1
    rw [e, hp] at q
    generalize μ[l] = b at q
    cases q
theorem RelM.lay_le (r : RelM K mg T w μ H) {p : Addr} (hp : H p = none) (o : HO) : w.Le (w.lay p o) :=
  ⟨Nat.le_refl _, fun _ _ => rfl, fun a u h => by
    have : a ≠ p := fun e => by rw [e, (r.free hp).1] at h; cases h
    show upd w.φ p o a = _
    rw [upd_ne this]; exact h, rfl, rfl⟩
theorem tabs_upd {p : Addr} {o : HO} (h : LamX.Tabs T H) (hp : H p = none) : LamX.Tabs T (upd H p o) := h.ext fun b u e => by
  have : b ≠ p := ne_of_none e hp
  rw [upd_ne this]; exact e
theorem RelM.lay (r : RelM K mg T w μ H) {p : Addr} (hp : H p = none) {o : HO} (ho : ∀ ps, o ≠ .tbl ps) : RelM K mg T (w.lay p o) μ (upd H p o) := by
  obtain ⟨f1, f2, fg, f3⟩ := r.free hp
  have le := r.lay_le hp o
  have old : ∀ {a u}, H a = some u → upd H p o a = some u := fun {a u} e => by rw [upd_ne (ne_of_none e hp)]; exact e
  refine ⟨r.n, fun a u h => ?_, fun a u h => old (r.fr a u h), fun a u h => old (r.gr a u h), fun a u h => ?_, fun a u h => ?_, fun l b hb => ?_, fun l hl => (r.gn l hl).imp fun u hu => le.φ _ _ hu, r.inj, tabs_upd r.tabs hp, fun a ps => ?_⟩
  · by_cases e : a = p
    · subst e
      have h' : upd w.φ a o a = some u := h
      rw [upd_same] at h' ⊢; exact h'
    · have h' : upd w.φ p o a = some u := h
      rw [upd_ne e] at h'
      exact old (r.φ a u h')
  · have h' : w.fr a = some u := h
    have : a ≠ p := fun e => by rw [e, f2] at h'; cases h'
    show upd w.φ p o a = none
    rw [upd_ne this]; exact r.dj a u h
  · have h' : w.gr a = some u := h
    have : a ≠ p := fun e => by rw [e, fg] at h'; cases h'
    refine ⟨?_, (r.dg a u h).2⟩
    show upd w.φ p o a = none
    rw [upd_ne this]; exact (r.dg a u h).1
  · obtain ⟨h1, h2⟩ := r.ob l b hb
    have hl : l < w.n := by rw [r.n]; exact (List.getElem?_eq_some_iff.mp hb).1
    have ne : w.ρ l ≠ p := f3 l hl
    refine ⟨?_, fun ng => ⟨?_, (h2 ng).2⟩⟩
    · show RelOb K mg (w.lay p o) b (upd H p o (w.ρ l))
      rw [upd_ne ne]; exact h1.mono le
    · show upd w.φ p o (w.ρ l) = none
      rw [upd_ne ne]; exact (h2 ng).1
  · refine ⟨?_, (r.nt a ps).2⟩
    show upd w.φ p o a ≠ _
    by_cases e : a = p
    · subst e; rw [upd_same]; exact fun z => ho ps (Option.some.inj z)
    · rw [upd_ne e]; exact (r.nt a ps).1
theorem Wd.lay_at {p : Addr} {o : HO} : (w.lay p o).φ p = some o := upd_same
theorem Wd.put_le (w : Wd) (p : Addr) : w.Le (w.put p) := ⟨Nat.le_succ _, fun l h => if_neg (Nat.ne_of_lt h), fun _ _ h => h, rfl, rfl⟩
theorem Wd.put_at {w : Wd} {p : Addr} : (w.put p).ρ w.n = p := if_pos rfl
theorem RelM.put (r : RelM K mg T w μ H) {p : Addr} (hp : H p = none) {o : HO} {b : Ob} (hb : RelOb K mg w b (some o)) (ng : b ≠ .gone := by nofun) : RelM K mg T (w.put p) (μ ++ [b]) (upd H p o) := by
  obtain ⟨f1, f2, fg, f3⟩ := r.free hp
  have le := w.put_le p
  have old : ∀ {a u}, H a = some u → upd H p o a = some u := fun {a u} e => by rw [upd_ne (ne_of_none e hp)]; exact e
  refine ⟨?_, fun a u h => old (r.φ a u h), fun a u h => old (r.fr a u h), fun a u h => old (r.gr a u h), r.dj, r.dg, fun l c hc => ?_, fun l hl => ?_, fun l l' h h' e => ?_, tabs_upd r.tabs hp, r.nt⟩
  · show w.n + 1 = _
    simp [r.n]
  · by_cases e : l = w.n
    · subst e
      rw [r.n, List.getElem?_append_right (Nat.le_refl _)] at hc
      simp at hc
      subst hc
      rw [show (w.put p).ρ w.n = p from if_pos rfl]
      rw [upd_same]
      exact ⟨hb.mono le, fun _ => ⟨f1, f2, fg⟩⟩
    · have hl : l < μ.length := by
        have := (List.getElem?_eq_some_iff.mp hc).1
        simp at this
        have := r.n
        omega
      rw [List.getElem?_append_left hl] at hc
      obtain ⟨h1, h2⟩ := r.ob l c hc
      have hn : l < w.n := by rw [r.n]; exact hl
      rw [show (w.put p).ρ l = w.ρ l from if_neg e]
      rw [upd_ne (f3 l hn)]
      exact ⟨h1.mono le, h2⟩
  · by_cases e : l < μ.length
    · rw [List.getElem?_append_left e] at hl
      obtain ⟨u, hu⟩ := r.gn l hl
      refine ⟨u, ?_⟩
      show w.φ ((w.put p).ρ l) = some u
      rw [show (w.put p).ρ l = w.ρ l from if_neg (by have := r.n; omega)]
      exact hu
    · rw [List.getElem?_append_right (by omega)] at hl
      cases k : l - μ.length with
      | zero => rw [k] at hl; cases hl; exact absurd rfl ng
      | succ n => rw [k] at hl; cases hl
  · have h1 : l < w.n + 1 := h
    have h2 : l' < w.n + 1 := h'
    by_cases e1 : l = w.n
    · by_cases e2 : l' = w.n
      · rw [e1, e2]
      · rw [show (w.put p).ρ l = p from if_pos e1, show (w.put p).ρ l' = w.ρ l' from if_neg e2] at e
        exact absurd e.symm (f3 l' (by omega))
    · by_cases e2 : l' = w.n
      · rw [show (w.put p).ρ l = w.ρ l from if_neg e1, show (w.put p).ρ l' = p from if_pos e2] at e
        exact absurd e (f3 l (by omega))
      · rw [show (w.put p).ρ l = w.ρ l from if_neg e1, show (w.put p).ρ l' = w.ρ l' from if_neg e2] at e
        exact r.inj l l' (by omega) (by omega) e
/-- the object of a changing thing -/
def chg : HO → Bool
  | .lst _ => true
  | .dK _ => true
  | .dT _ => true
  | .ins _ _ _ => true
  | _ => false
theorem RelOb.chg {b : Ob} {o : HO} (ng : b ≠ .gone) (h : RelOb K mg w b (some o)) : chg o = true := by
  cases h with
  | gone => exact absurd rfl ng
  | _ => rfl
theorem tabs_chg {p : Addr} {o o' : HO} (h : LamX.Tabs T H) (hp : H p = some o) (hc : chg o = true) : LamX.Tabs T (upd H p o') := fun q hq => by
  obtain ⟨ps, h1, h2, h3⟩ := h q hq
  have ne : ∀ {a u}, H a = some u → chg u = false → a ≠ p := fun {a u} e z x => by
    rw [x, hp] at e; cases e; rw [hc] at z; cases z
  refine ⟨ps, by rw [upd_ne (ne h1 rfl)]; exact h1, h2, fun pos cv hcv => ?_⟩
  obtain ⟨c, e1, e2⟩ := h3 pos cv hcv
  exact ⟨c, e1, by rw [upd_ne (ne e2 rfl)]; exact e2⟩
theorem RelM.write (r : RelM K mg T w μ H) {l : Nat} {b b' : Ob} {o' : HO} (hl : μ[l]? = some b) (ng : b ≠ .gone) (hb : RelOb K mg w b' (some o')) (ng' : b' ≠ .gone := by nofun) : RelM K mg T w (μ.set l b') (upd H (w.ρ l) o') := by
  obtain ⟨h1, hng⟩ := r.ob l b hl
  obtain ⟨h2, h3, h4⟩ := hng ng
  have hlt : l < μ.length := (List.getElem?_eq_some_iff.mp hl).1
  obtain ⟨o, ho⟩ : ∃ o, H (w.ρ l) = some o := by
    cases e : H (w.ρ l) with
    | none => rw [e] at h1; cases h1
    | some o => exact ⟨o, rfl⟩
  have hc : chg o = true := by rw [ho] at h1; exact h1.chg ng
  refine ⟨by simp [r.n], fun a u h => ?_, fun a u h => ?_, fun a u h => ?_, r.dj, r.dg, fun l' c hc' => ?_, fun l' hl' => ?_, r.inj, tabs_chg r.tabs ho hc, r.nt⟩
  · rw [upd_ne (fun e => by rw [e, h2] at h; cases h)]; exact r.φ a u h
  · rw [upd_ne (fun e => by rw [e, h3] at h; cases h)]; exact r.fr a u h
  · rw [upd_ne (fun e => by rw [e, h4] at h; cases h)]; exact r.gr a u h
  · by_cases e : l = l'
    · subst e
      rw [List.getElem?_set_self hlt] at hc'
      cases hc'
      rw [upd_same]
      exact ⟨hb, fun _ => ⟨h2, h3, h4⟩⟩
    · rw [List.getElem?_set_ne e] at hc'
      have hlt' : l' < μ.length := (List.getElem?_eq_some_iff.mp hc').1
      have ne : w.ρ l' ≠ w.ρ l := fun z => e (r.inj l l' (by rw [r.n]; exact hlt) (by rw [r.n]; exact hlt') z.symm)
      rw [upd_ne ne]
      exact r.ob l' c hc'
  · by_cases e : l = l'
    · subst e
      rw [List.getElem?_set_self hlt] at hl'
      exact absurd (Option.some.inj hl') ng'
    · rw [List.getElem?_set_ne e] at hl'
      exact r.gn l' hl'
end

section
variable {K : PySem.W.Frag} {mg : Str → Option Value} {w w' : Wd} {T : List (Addr × Str)} {μ : Mem} {H : Hp}
/-- what is being made, at p -/
def Wd.grow (w : Wd) (p : Addr) (o : HO) : Wd := { w with gr := upd w.gr p o }
theorem Wd.grow_lw (w : Wd) (p : Addr) (o : HO) : w.Lw (w.grow p o) := ⟨Nat.le_refl _, fun _ _ => rfl, fun _ _ h => h, rfl⟩
theorem Wd.grow_wl (w : Wd) (p : Addr) (o : HO) : (w.grow p o).Lw w := ⟨Nat.le_refl _, fun _ _ => rfl, fun _ _ h => h, rfl⟩
theorem grow_nt {g : Hp} {p : Addr} {o : HO} (h : ∀ a ps, g a ≠ some (.tbl ps)) (ho : ∀ ps, o ≠ .tbl ps) : ∀ a ps, upd g p o a ≠ some (.tbl ps) := fun a ps => by
  by_cases e : a = p
  · subst e; rw [upd_same]; exact fun z => ho ps (Option.some.inj z)
  · rw [upd_ne e]; exact h a ps
theorem grow_ne {g : Hp} {p : Addr} {o : HO} (h : ∀ a f, g a ≠ some (.ext f)) (he : ∀ f, o ≠ .ext f) : ∀ a f, upd g p o a ≠ some (.ext f) := fun a f => by
  by_cases e : a = p
  · subst e; rw [upd_same]; exact fun z => he f (Option.some.inj z)
  · rw [upd_ne e]; exact h a f
theorem RelM.grow (r : RelM K mg T w μ H) {p : Addr} (hp : H p = none) (o : HO) (ho : ∀ ps, o ≠ .tbl ps := by nofun) (he : ∀ f, o ≠ .ext f := by nofun) : RelM K mg T (w.grow p o) μ (upd H p o) := by
  obtain ⟨f1, f2, fg, f3⟩ := r.free hp
  have old : ∀ {a u}, H a = some u → upd H p o a = some u := fun {a u} e => by rw [upd_ne (ne_of_none e hp)]; exact e
  refine ⟨r.n, fun a u h => old (r.φ a u h), fun a u h => old (r.fr a u h), fun a u h => ?_, r.dj, fun a u h => ?_, fun l b hb => ?_, r.gn, r.inj, tabs_upd r.tabs hp, fun a ps => ⟨(r.nt a ps).1, (r.nt a ps).2.1, grow_nt (fun a ps => (r.nt a ps).2.2.1) ho a ps, grow_ne (fun a f => (r.nt a #[]).2.2.2 f) he a⟩⟩
  · have h' : upd w.gr p o a = some u := h
    by_cases e : a = p
    · subst e
      rw [upd_same] at h' ⊢; exact h'
    · rw [upd_ne e] at h'
      exact old (r.gr a u h')
  · have h' : upd w.gr p o a = some u := h
    by_cases e : a = p
    · subst e
      exact ⟨f1, f2⟩
    · rw [upd_ne e] at h'
      exact r.dg a u h'
  · obtain ⟨h1, h2⟩ := r.ob l b hb
    have hl : l < w.n := by rw [r.n]; exact (List.getElem?_eq_some_iff.mp hb).1
    have ne : w.ρ l ≠ p := f3 l hl
    refine ⟨?_, fun ng => ⟨(h2 ng).1, (h2 ng).2.1, ?_⟩⟩
    · show RelOb K mg (w.grow p o) b (upd H p o (w.ρ l))
      rw [upd_ne ne]; exact h1.monoW (w.grow_lw p o)
    · show upd w.gr p o (w.ρ l) = none
      rw [upd_ne ne]; exact (h2 ng).2.2
theorem RelM.regrow (r : RelM K mg T w μ H) {p : Addr} {o : HO} (hp : w.gr p = some o) (hc : chg o = true) (o' : HO) (ho : ∀ ps, o' ≠ .tbl ps := by nofun) (he : ∀ f, o' ≠ .ext f := by nofun) : RelM K mg T (w.grow p o') μ (upd H p o') := by
  have hH := r.gr p o hp
  obtain ⟨f1, f2⟩ := r.dg p o hp
  have np : ∀ {a u}, w.φ a = some u → a ≠ p := fun {a u} e z => by rw [z, f1] at e; cases e
  have nf : ∀ {a u}, w.fr a = some u → a ≠ p := fun {a u} e z => by rw [z, f2] at e; cases e
  have nl : ∀ l b, μ[l]? = some b → w.ρ l ≠ p ∨ b = .gone := fun l b hb => by
    by_cases ng : b = .gone
    · exact .inr ng
    · left
      intro z
      have := ((r.ob l b hb).2 ng).2.2
      rw [z, hp] at this
      cases this
  refine ⟨r.n, fun a u h => by rw [upd_ne (np h)]; exact r.φ a u h, fun a u h => by rw [upd_ne (nf h)]; exact r.fr a u h, fun a u h => ?_, r.dj, fun a u h => ?_, fun l b hb => ?_, r.gn, r.inj, tabs_chg r.tabs hH hc, fun a ps => ⟨(r.nt a ps).1, (r.nt a ps).2.1, grow_nt (fun a ps => (r.nt a ps).2.2.1) ho a ps, grow_ne (fun a f => (r.nt a #[]).2.2.2 f) he a⟩⟩
  · have h' : upd w.gr p o' a = some u := h
    by_cases e : a = p
    · subst e
      rw [upd_same] at h' ⊢; exact h'
    · rw [upd_ne e] at h' ⊢
      exact r.gr a u h'
  · have h' : upd w.gr p o' a = some u := h
    by_cases e : a = p
    · subst e
      exact ⟨f1, f2⟩
    · rw [upd_ne e] at h'
      exact r.dg a u h'
  · obtain ⟨h1, h2⟩ := r.ob l b hb
    rcases nl l b hb with ne | rfl
    · refine ⟨?_, fun ng => ⟨(h2 ng).1, (h2 ng).2.1, ?_⟩⟩
      · show RelOb K mg (w.grow p o') b (upd H p o' (w.ρ l))
        rw [upd_ne ne]; exact h1.monoW (w.grow_lw p o')
      · show upd w.gr p o' (w.ρ l) = none
        rw [upd_ne ne]; exact (h2 ng).2.2
    · refine ⟨?_, fun ng => absurd rfl ng⟩
      show RelOb K mg (w.grow p o') .gone (upd H p o' (w.ρ l))
      by_cases z : w.ρ l = p
      · rw [z, upd_same]; exact .gone
      · rw [upd_ne z]; exact h1.monoW (w.grow_lw p o')
/-- it is made: laid for good -/
def Wd.done (w : Wd) (p : Addr) (o : HO) (g : Hp) : Wd := { w with φ := upd w.φ p o, gr := g }
theorem RelM.done (r : RelM K mg T w μ H) {p : Addr} {o : HO} {g : Hp} (hp : w.gr p = some o) (hg : ∀ a, a ≠ p → g a = w.gr a) (gp : g p = none) (ho : ∀ ps, o ≠ .tbl ps) : RelM K mg T (w.done p o g) μ H := by
  have hH := r.gr p o hp
  obtain ⟨f1, f2⟩ := r.dg p o hp
  have lw : w.Lw (w.done p o g) := ⟨Nat.le_refl _, fun _ _ => rfl, fun a u h => by
    have : a ≠ p := fun e => by rw [e, f1] at h; cases h
    show upd w.φ p o a = _
    rw [upd_ne this]; exact h, rfl⟩
  have gg : ∀ {a u}, g a = some u → a ≠ p ∧ w.gr a = some u := fun {a u} h => by
    have : a ≠ p := fun e => by rw [e, gp] at h; cases h
    exact ⟨this, by rw [← hg a this]; exact h⟩
  refine ⟨r.n, fun a u h => ?_, r.fr, fun a u h => r.gr a u (gg h).2, fun a u h => ?_, fun a u h => ?_, fun l b hb => ?_, fun l hl => (r.gn l hl).imp fun u hu => lw.φ _ _ hu, r.inj, r.tabs, fun a ps => ?_⟩
  · have h' : upd w.φ p o a = some u := h
    by_cases e : a = p
    · subst e; rw [upd_same] at h'; cases h'; exact hH
    · rw [upd_ne e] at h'; exact r.φ a u h'
  · have h' : w.fr a = some u := h
    have : a ≠ p := fun e => by rw [e, f2] at h'; cases h'
    show upd w.φ p o a = none
    rw [upd_ne this]; exact r.dj a u h
  · obtain ⟨h1, h2⟩ := gg h
    refine ⟨?_, (r.dg a u h2).2⟩
    show upd w.φ p o a = none
    rw [upd_ne h1]; exact (r.dg a u h2).1
  · obtain ⟨h1, h2⟩ := r.ob l b hb
    refine ⟨h1.monoW lw, fun ng => ?_⟩
    obtain ⟨k1, k2, k3⟩ := h2 ng
    have ne : w.ρ l ≠ p := fun z => by rw [z, hp] at k3; cases k3
    refine ⟨?_, k2, ?_⟩
    · show upd w.φ p o (w.ρ l) = none
      rw [upd_ne ne]; exact k1
    · show g (w.ρ l) = none
      rw [hg _ ne]; exact k3
  · exact ⟨grow_nt (fun a ps => (r.nt a ps).1) ho a ps, (r.nt a ps).2.1, fun z => (r.nt a ps).2.2.1 (gg z).2, fun f z => (r.nt a ps).2.2.2 f (gg z).2⟩
end

/-! ### how a piece of code ends -/
def Out.to {α : Type} (o : Out α) (Q : α → Mem → Prop) (E : Xn → Mem → Prop) : Prop := match o with
  | .ok a μ => Q a μ
  | .exc x μ => E x μ
  | .stuck => False
def Out.bind {α β : Type} (o : Out α) (f : α → Mem → Out β) : Out β := match o with
  | .ok a μ => f a μ
  | .exc x μ => .exc x μ
  | .stuck => .stuck
theorem Out.to_bind {α β : Type} {o : Out α} {f : α → Mem → Out β} {Q E} (h : (o.bind f).to Q E) : o.to (fun a μ => (f a μ).to Q E) E := by
  cases o <;> exact h
theorem Out.to_mono {α : Type} {o : Out α} {Q Q' E E'} (h : o.to Q E) (hQ : ∀ a μ, Q a μ → Q' a μ) (hE : ∀ a μ, E a μ → E' a μ) : o.to Q' E' := by
  cases o with
  | ok a μ => exact hQ _ _ h
  | exc x μ => exact hE _ _ h
  | stuck => exact h

abbrev EM := Sv → Mem → Out D
abbrev TM := Sv → Mem → Out Bool
abbrev AM := Sv → Mem → Out (List D)

section
variable (K : PySem.W.Frag) (mg : Str → Option Value) (S : SI) (W : WX)
/-- the state of the world ahead of what is left to be done -/
def At {α β : Type} (R : Wd → α → β → Prop) (σ : L2.St) (Q : β → Hp → Prop) (w : Wd) (δ : Sv) (μ : Mem) (H : Hp) (o : Out α) : Prop :=
  RelSv K mg S w δ σ ∧ RelM K mg S.T w μ H ∧
    o.to (fun d μ' => ∀ w' v H', w.Le w' → RelM K mg S.T w' μ' H' → R w' d v → Q v H') (fun x μ' => ∀ w' cls dd H', w.Le w' → RelM K mg S.T w' μ' H' → RelX K mg w' x cls dd → W cls dd σ H')
/-- the reading of a piece of code that does what m says -/
def tM {α β : Type} (R : Wd → α → β → Prop) (m : Sv → Mem → Out α) : L2.St → Hp → (β → Hp → Prop) → Prop := fun σ H Q => ∃ w δ μ, At K mg S W R σ Q w δ μ H (m δ μ)
abbrev tE (m : EM) : TE := tM K mg S W (RelD K mg) m
abbrev tT (m : TM) : TT := tM K mg S W (fun _ (a b : Bool) => a = b) m
abbrev tA (m : AM) : TA := tM K mg S W (RelDs K mg) m
end
section
variable {K : PySem.W.Frag} {mg : Str → Option Value} {S : SI} {W : WX} {α β γ ε : Type} {R : Wd → α → β → Prop} {R' : Wd → γ → ε → Prop} {σ : L2.St} {w : Wd} {δ : Sv} {μ : Mem} {H : Hp}
/-- one piece, then the rest -/
theorem At.bind {o : Out α} {f : α → Mem → Out γ} {Q : ε → Hp → Prop} (h : At K mg S W R' σ Q w δ μ H (o.bind f)) :
    At K mg S W R σ (fun v H1 => ∃ w1 μ1 d, w.Le w1 ∧ R w1 d v ∧ At K mg S W R' σ Q w1 δ μ1 H1 (f d μ1)) w δ μ H o := by
  obtain ⟨h1, h2, h3⟩ := h
  refine ⟨h1, h2, ?_⟩
  cases o with
  | stuck => exact h3
  | exc x μ' => exact h3
  | ok a μ' =>
    intro w' v H' le rm rd
    refine ⟨w', μ', a, le, rd, h1.mono le, rm, ?_⟩
    exact Out.to_mono (show (f a μ').to _ _ from h3) (fun d μ2 q w2 v2 H2 le2 => q w2 v2 H2 (le.trans le2)) (fun x μ2 q w2 c d H2 le2 => q w2 c d H2 (le.trans le2))
theorem At.mono {o : Out α} {Q Q' : β → Hp → Prop} (h : At K mg S W R σ Q w δ μ H o) (hQ : ∀ v H', Q v H' → Q' v H') : At K mg S W R σ Q' w δ μ H o :=
  ⟨h.1, h.2.1, Out.to_mono h.2.2 (fun _ _ q w' v H' a b c => hQ _ _ (q w' v H' a b c)) fun _ _ q => q⟩
theorem At.tM {m : Sv → Mem → Out α} {Q : β → Hp → Prop} (h : At K mg S W R σ Q w δ μ H (m δ μ)) : tM K mg S W R m σ H Q := ⟨w, δ, μ, h⟩
/-- a piece that ends at once, the memory as it is -/
theorem At.pure {d : α} {Q : β → Hp → Prop} (h : At K mg S W R σ Q w δ μ H (.ok d μ)) {v : β} (r : R w d v) : Q v H := h.2.2 w v H (Wd.Le.refl _) h.2.1 r
end
end Kw

set_option Elab.async false
set_option linter.all false
set_option maxRecDepth 100000
namespace Kw
open PySem PySem.Spec PyProof.Rows L2

/-! ### readings, weakened -/
section
variable {X : Cx}
theorem PEi {e : Expr} {t t' : TE} (h : PE X e t') (i : ∀ σ H Q, t σ H Q → t' σ H Q) : PE X e t := ⟨fun pins s σ H Q I q => h.run pins s σ H Q I (i _ _ _ q)⟩
theorem PTi {e : Expr} {t t' : TT} (h : PT X e t') (i : ∀ σ H Q, t σ H Q → t' σ H Q) : PT X e t := ⟨fun pins s σ H Q I q => h.run pins s σ H Q I (i _ _ _ q)⟩
theorem PAi {e : List Expr} {t t' : TA} (h : PA X e t') (i : ∀ σ H Q, t σ H Q → t' σ H Q) : PA X e t := ⟨fun pos pins s σ H Q I q => h.run pos pins s σ H Q I (i _ _ _ q)⟩
theorem PKi {e : List Keyword} {t t' : TA} (h : PK X e t') (i : ∀ σ H Q, t σ H Q → t' σ H Q) : PK X e t := ⟨fun pos pins s σ H Q I q => h.run pos pins s σ H Q I (i _ _ _ q)⟩
theorem PSi {e : Stmt} {t t' : TS} (h : PS X e t') (i : ∀ D σ H, t D σ H → t' D σ H) : PS X e t := ⟨fun pins s σ H D I q => h.run pins s σ H D I (i _ _ _ q)⟩
theorem PSsi {e : List Stmt} {t t' : TS} (h : PSs X e t') (i : ∀ D σ H, t D σ H → t' D σ H) : PSs X e t := ⟨fun pins s σ H D I q => h.run pins s σ H D I (i _ _ _ q)⟩
end

/-! ### lists of data -/
/-- the items of a list (as it stands), of one that was made here, of a tuple -/
def lstOf (μ : Mem) : D → Option (List D)
  | .lst xs => some xs
  | .scr xs => some xs
  | .loc l => match μ[l]? with
    | some (.lst xs) => some xs
    | _ => none
  | _ => none
def lstX (μ : Mem) : D → Option (List D)
  | .lst xs => some xs
  | .loc l => match μ[l]? with
    | some (.lst xs) => some xs
    | _ => none
  | _ => none
def tupOf : D → Option (List D)
  | .tup xs => some xs
  | _ => none
def seqOf (μ : Mem) (d : D) : Option (List D) := match d with
  | .tup xs => some xs
  | d => lstOf μ d

section
variable {K : PySem.W.Frag} {mg : Str → Option Value} {w w' : Wd} {T : List (Addr × Str)} {μ : Mem} {H : Hp}
theorem RelM.lst (r : RelM K mg T w μ H) {l : Nat} {xs : List D} (h : μ[l]? = some (.lst xs)) : ∃ vs, H (w.ρ l) = some (.lst vs) ∧ RelDs K mg w xs vs := by
  have q := (r.ob l _ h).1
  generalize e : H (w.ρ l) = o at q
  cases q with
  | lst rs => exact ⟨_, rfl, rs⟩
theorem scr_H (r : RelM K mg T w μ H) {a : Addr} {vs : List V} (e : SqL K w.φ a vs ∨ w.fr a = some (.lst vs)) : SqL K H a vs := e.elim (sqL_mono r.φ) fun h => .inl (.inl (r.fr _ _ h))
theorem lstOf_rel (r : RelM K mg T w μ H) {d : D} {v : V} {xs : List D} (rd : RelD K mg w d v) (h : lstOf μ d = some xs) : ∃ a vs, v = .ref a ∧ SqL K H a vs ∧ RelDs K mg w xs vs := by
  cases rd with
  | lst e rs => cases h; exact ⟨_, _, rfl, .inl (.inl (r.φ _ _ e)), rs⟩
  | scr e rs => cases h; exact ⟨_, _, rfl, scr_H r e, rs⟩
  | @loc l hl =>
    simp only [lstOf] at h
    split at h
    · next ys q =>
      cases h
      obtain ⟨vs, h1, h2⟩ := r.lst q
      exact ⟨_, vs, rfl, .inl (.inl h1), h2⟩
    · cases h
  | _ => cases h
theorem lstX_rel (r : RelM K mg T w μ H) {d : D} {v : V} {xs : List D} (rd : RelD K mg w d v) (h : lstX μ d = some xs) : ∃ a vs, v = .ref a ∧ H a = some (.lst vs) ∧ RelDs K mg w xs vs := by
  cases rd with
  | lst e rs => cases h; exact ⟨_, _, rfl, r.φ _ _ e, rs⟩
  | @loc l hl =>
    simp only [lstX] at h
    split at h
    · next ys q =>
      cases h
      obtain ⟨vs, h1, h2⟩ := r.lst q
      exact ⟨_, vs, rfl, h1, h2⟩
    · cases h
  | _ => cases h
theorem tupOf_rel (r : RelM K mg T w μ H) {d : D} {v : V} {xs : List D} (rd : RelD K mg w d v) (h : tupOf d = some xs) : ∃ a vs, v = .ref a ∧ SqT K H a vs ∧ RelDs K mg w xs vs := by
  cases rd with
  | tup e rs => cases h; exact ⟨_, _, rfl, sqT_mono r.φ e, rs⟩
  | _ => cases h
theorem seqOf_rel (r : RelM K mg T w μ H) {d : D} {v : V} {xs : List D} (rd : RelD K mg w d v) (h : seqOf μ d = some xs) : ∃ a vs, v = .ref a ∧ (SqL K H a vs ∨ SqT K H a vs) ∧ RelDs K mg w xs vs := by
  unfold seqOf at h
  split at h
  · cases h
    obtain ⟨a, vs, h1, h2, h3⟩ := tupOf_rel r rd rfl
    exact ⟨a, vs, h1, .inr h2, h3⟩
  · obtain ⟨a, vs, h1, h2, h3⟩ := lstOf_rel r rd h
    exact ⟨a, vs, h1, .inl h2, h3⟩

theorem RelDs.get : ∀ {ds : List D} {vs : List V}, RelDs K mg w ds vs → ∀ {i : Nat} {d : D}, ds[i]? = some d → ∃ v, vs[i]? = some v ∧ RelD K mg w d v
  | _, _, .nil, i, d, e => by simp at e
  | _, _, .cons h t, 0, d, e => by cases e; exact ⟨_, rfl, h⟩
  | _, _, .cons h t, i + 1, d, e => RelDs.get t (i := i) e
theorem RelDs.get' : ∀ {ds : List D} {vs : List V}, RelDs K mg w ds vs → ∀ {i : Nat} {v : V}, vs[i]? = some v → ∃ d, ds[i]? = some d ∧ RelD K mg w d v
  | _, _, .nil, i, d, e => by simp at e
  | _, _, .cons h t, 0, d, e => by cases e; exact ⟨_, rfl, h⟩
  | _, _, .cons h t, i + 1, d, e => RelDs.get' t (i := i) e
theorem RelDs.append : ∀ {ds es : List D} {vs us : List V}, RelDs K mg w ds vs → RelDs K mg w es us → RelDs K mg w (ds ++ es) (vs ++ us)
  | _, _, _, _, .nil, h => h
  | _, _, _, _, .cons a t, h => .cons a (t.append h)
theorem RelDs.one {d : D} {v : V} (h : RelD K mg w d v) : RelDs K mg w [d] [v] := .cons h .nil
theorem RelDs.drop : ∀ (n : Nat) {ds : List D} {vs : List V}, RelDs K mg w ds vs → RelDs K mg w (ds.drop n) (vs.drop n)
  | 0, _, _, h => by simpa using h
  | n + 1, _, _, .nil => by simpa using RelDs.nil
  | n + 1, _, _, .cons _ t => by simpa using t.drop n
theorem RelDs.take : ∀ (n : Nat) {ds : List D} {vs : List V}, RelDs K mg w ds vs → RelDs K mg w (ds.take n) (vs.take n)
  | 0, _, _, h => by simpa using RelDs.nil
  | n + 1, _, _, .nil => by simpa using RelDs.nil
  | n + 1, _, _, .cons a t => by simpa using RelDs.cons a (t.take n)
theorem RelDs.reverse : ∀ {ds : List D} {vs : List V}, RelDs K mg w ds vs → RelDs K mg w ds.reverse vs.reverse
  | _, _, .nil => .nil
  | _, _, .cons a t => by simpa using t.reverse.append (.one a)
theorem RelDs.set : ∀ {ds : List D} {vs : List V}, RelDs K mg w ds vs → ∀ (i : Nat) {d : D} {v : V}, RelD K mg w d v → RelDs K mg w (ds.set i d) (vs.set i v)
  | _, _, .nil, _, _, _, _ => .nil
  | _, _, .cons a t, 0, _, _, h => .cons h t
  | _, _, .cons a t, i + 1, _, _, h => .cons a (t.set i h)
theorem RelDs.eraseIdx : ∀ {ds : List D} {vs : List V}, RelDs K mg w ds vs → ∀ (i : Nat), RelDs K mg w (ds.eraseIdx i) (vs.eraseIdx i)
  | _, _, .nil, _ => .nil
  | _, _, .cons a t, 0 => t
  | _, _, .cons a t, i + 1 => .cons a (t.eraseIdx i)
theorem RelDs.atI {ds : List D} {vs : List V} (h : RelDs K mg w ds vs) {i : Int} {d : D} (e : atI ds i = some d) : ∃ v, L2.atI vs i = some v ∧ RelD K mg w d v := by
  unfold L2.atI at e ⊢
  rw [← h.length]
  cases q : ixN ds.length i with
  | none => rw [q] at e; cases e
  | some j => rw [q] at e; exact h.get e
theorem RelDs.cutV {ds : List D} {vs : List V} (h : RelDs K mg w ds vs) (lo hi : Option Int) : RelDs K mg w ((ds.drop (HT.sIx ds.length 0 lo)).take (HT.sIx ds.length ds.length hi - HT.sIx ds.length 0 lo)) (L2.cutV vs lo hi) := by
  unfold L2.cutV
  rw [← h.length]
  exact (h.drop _).take _
end
end Kw

set_option Elab.async false
set_option linter.all false
set_option maxRecDepth 100000
namespace Kw
open PySem PySem.Spec PyProof.Rows L2

/-! ### operations by data -/
def oOf (o : Option D) (μ : Mem) : Out D := match o with
  | some d => .ok d μ
  | none => .stuck
def oOfM (o : Option (D × Mem)) : Out D := match o with
  | some (d, μ) => .ok d μ
  | none => .stuck
section
variable (K : PySem.W.Frag) (mg : Str → Option Value) (T : List (Addr × Str))
/-- a value d comes, the memory as it is -/
def Then1 (w : Wd) (μ : Mem) (Q : VK) (d : D) : Prop := ∀ w' v H', w.Le w' → RelM K mg T w' μ H' → RelD K mg w' d v → Q v H'
def rD2 (g : D → D → Mem → Option D) : R2 := fun x y H Q => ∃ w μ dx dy d, RelM K mg T w μ H ∧ RelD K mg w dx x ∧ RelD K mg w dy y ∧ g dx dy μ = some d ∧ Then1 K mg T w μ Q d
def rD1 (g : D → Mem → Option D) : V → Hp → VK → Prop := fun x H Q => ∃ w μ dx d, RelM K mg T w μ H ∧ RelD K mg w dx x ∧ g dx μ = some d ∧ Then1 K mg T w μ Q d
def rDs (g : List D → Mem → Option D) : List V → Hp → VK → Prop := fun xs H Q => ∃ w μ ds d, RelM K mg T w μ H ∧ RelDs K mg w ds xs ∧ g ds μ = some d ∧ Then1 K mg T w μ Q d
def rDm (g : D → List D → Mem → Option (D × Mem)) : V → List V → Hp → VK → Prop := fun x xs H Q => ∃ w μ dx ds d μ', RelM K mg T w μ H ∧ RelD K mg w dx x ∧ RelDs K mg w ds xs ∧ g dx ds μ = some (d, μ') ∧ Then1 K mg T w μ' Q d
end
section
variable {K : PySem.W.Frag} {mg : Str → Option Value} {S : SI} {W : WX} {T : List (Addr × Str)} {w : Wd} {μ : Mem} {H : Hp} {Q : VK} {σ : L2.St} {δ : Sv}
theorem Then1.same {d : D} {v : V} (q : Then1 K mg T w μ Q d) (r : RelM K mg T w μ H) (rd : RelD K mg w d v) : Q v H := q w v H (Wd.Le.refl _) r rd
theorem Then1.lst {ds : List D} {vs : List V} (q : Then1 K mg T w μ Q (.lst ds)) (r : RelM K mg T w μ H) (rs : RelDs K mg w ds vs) : ∀ p, H p = none → Q (.ref p) (upd H p (.lst vs)) := fun p hp =>
  q (w.lay p (.lst vs)) _ _ (r.lay_le hp _) (r.lay hp (fun _ => nofun)) (.lst Wd.lay_at (RelDs.mono (r.lay_le hp _) rs))
theorem Then1.tup {ds : List D} {vs : List V} (q : Then1 K mg T w μ Q (.tup ds)) (r : RelM K mg T w μ H) (rs : RelDs K mg w ds vs) : ∀ p, H p = none → Q (.ref p) (upd H p (.tup vs)) := fun p hp =>
  q (w.lay p (.tup vs)) _ _ (r.lay_le hp _) (r.lay hp (fun _ => nofun)) (.tup (.inl (.inl Wd.lay_at)) (RelDs.mono (r.lay_le hp _) rs))
theorem At.opt {o : Option D} (h : At K mg S W (RelD K mg) σ Q w δ μ H (oOf o μ)) : ∃ d, o = some d ∧ Then1 K mg S.T w μ Q d := by
  cases o with
  | none => exact h.2.2.elim
  | some d => exact ⟨d, rfl, h.2.2⟩
theorem At.optM {o : Option (D × Mem)} (h : At K mg S W (RelD K mg) σ Q w δ μ H (oOfM o)) : ∃ d μ', o = some (d, μ') ∧ Then1 K mg S.T w μ' Q d := by
  cases o with
  | none => exact h.2.2.elim
  | some d => exact ⟨d.1, d.2, rfl, h.2.2⟩
end

/-! ### expressions -/
abbrev TEm (X : Cx) (S : SI) (W : WX) (m : EM) : TE := tE X.K X.mg S W m
abbrev TTm (X : Cx) (S : SI) (W : WX) (m : TM) : TT := tT X.K X.mg S W m
abbrev TAm (X : Cx) (S : SI) (W : WX) (m : AM) : TA := tA X.K X.mg S W m
def eVar (i : Nat) : EM := fun δ μ => match δ[i]? with
  | some (some d) => match d with
    | .lam => .stuck
    | .exc _ _ => .stuck
    | d => .ok d μ
  | _ => .stuck
def eC (d : D) : EM := fun _ μ => .ok d μ
def e1 (g : D → Mem → Option D) (ma : EM) : EM := fun δ μ => (ma δ μ).bind fun x μ1 => oOf (g x μ1) μ1
def e2 (g : D → D → Mem → Option D) (ma mb : EM) : EM := fun δ μ => (ma δ μ).bind fun x μ1 => (mb δ μ1).bind fun y μ2 => oOf (g x y μ2) μ2
def eAs (g : List D → Mem → Option D) (ma : AM) : EM := fun δ μ => (ma δ μ).bind fun xs μ1 => oOf (g xs μ1) μ1
def eMt (g : D → List D → Mem → Option (D × Mem)) (mo : EM) (ma : AM) : EM := fun δ μ => (mo δ μ).bind fun x μ1 => (ma δ μ1).bind fun xs μ2 => oOfM (g x xs μ2)
def aNil : AM := fun _ μ => .ok [] μ
def aCons (ma : EM) (mr : AM) : AM := fun δ μ => (ma δ μ).bind fun x μ1 => (mr δ μ1).bind fun xs μ2 => .ok (x :: xs) μ2
def truD (μ : Mem) : D → Option Bool
  | .non => some false
  | .bl b => some b
  | .int i => some (i != 0)
  | .str y => if y.length ≤ sizeLine then some ((y.length : Int) != 0) else none
  | .tup xs => some !xs.isEmpty
  | .lst xs => some !xs.isEmpty
  | .scr xs => some !xs.isEmpty
  | .dct kvs => none
  | .loc l => match μ[l]? with
    | some (.lst xs) => some !xs.isEmpty
    | some (.dct kvs) => some !kvs.isEmpty
    | _ => none
  | _ => none
def bOf (o : Option Bool) (μ : Mem) : Out Bool := match o with
  | some d => .ok d μ
  | none => .stuck
/-- a test: the value's truth -/
def tTru (ma : EM) : TM := fun δ μ => (ma δ μ).bind fun x μ1 => bOf (truD μ1 x) μ1
def tNotM (ma : TM) : TM := fun δ μ => (ma δ μ).bind fun b μ1 => .ok (!b) μ1
def tAndM (ma mb : TM) : TM := fun δ μ => (ma δ μ).bind fun b μ1 => if b = true then mb δ μ1 else .ok false μ1
def tOrM (ma mb : TM) : TM := fun δ μ => (ma δ μ).bind fun b μ1 => if b = true then .ok true μ1 else mb δ μ1
def eNotM (ma : EM) : EM := fun δ μ => (ma δ μ).bind fun x μ1 => (bOf (truD μ1 x) μ1).bind fun b μ2 => .ok (.bl !b) μ2
def eAndM (ma mb : EM) : EM := fun δ μ => (ma δ μ).bind fun x μ1 => (bOf (truD μ1 x) μ1).bind fun b μ2 => if b = true then mb δ μ2 else .ok x μ2
def eOrM (ma mb : EM) : EM := fun δ μ => (ma δ μ).bind fun x μ1 => (bOf (truD μ1 x) μ1).bind fun b μ2 => if b = true then .ok x μ2 else mb δ μ2
def eIfM (mt : TM) (ma mb : EM) : EM := fun δ μ => (mt δ μ).bind fun b μ1 => if b = true then ma δ μ1 else mb δ μ1

section
variable {X : Cx} {S : SI} {W : WX} {a b c e : Expr} {es : List Expr} {ma mb : EM} {mt mu : TM} {mr : AM} {pos p apos : Pos} {x : Str}
theorem pe_var' {i : Nat} (hN : X.N[i]? = some x) (hv : Vis X.env.scope x) (hd : (x == ("__debug__" : Str)) = false := by decide) (hcd : (x == ("__classdict__" : Str)) = false := by decide) : PE X (.Name x pos) (TEm X S W <| eVar i) :=
  PEi (pe_var hN hv hd hcd) fun σ H Q ⟨w, δ, μ, h⟩ => by
    have h3 := h.2.2
    unfold eVar at h3
    split at h3
    · next d hd =>
      obtain ⟨v, hv, rv⟩ := h.1.2 i d hd
      refine ⟨v, hv, ?_⟩
      split at h3
      · exact h3.elim
      · exact h3.elim
      · next n1 n2 =>
        refine h3 w v H (Wd.Le.refl _) h.2.1 ?_
        cases d with
        | lam => exact absurd rfl n1
        | exc c fs => exact absurd rfl (n2 c fs)
        | _ => exact rv
    · exact h3.elim
theorem pe_C' {d : D} {v : V} (h : PE X e (tC v)) (r : ∀ w, RelD X.K X.mg w d v) : PE X e (TEm X S W <| eC d) :=
  PEi h fun σ H Q ⟨w, δ, μ, h⟩ => h.2.2 w v H (Wd.Le.refl _) h.2.1 (r w)
theorem pe_1 {r : V → Hp → VK → Prop} {g : D → Mem → Option D} (h : ∀ t, PE X a t → PE X e (fun σ H Q => t σ H fun x H1 => r x H1 Q)) (hr : ∀ x H Q, rD1 X.K X.mg S.T g x H Q → r x H Q) (ha : PE X a (TEm X S W <| ma)) : PE X e (TEm X S W <| e1 g ma) :=
  PEi (h _ ha) fun σ H Q ⟨w, δ, μ, h⟩ => ⟨w, δ, μ, (At.bind h).mono fun x H1 ⟨w1, μ1, d, le, rd, h1⟩ => by
    obtain ⟨z, e, q⟩ := h1.opt
    exact hr _ _ _ ⟨w1, μ1, d, z, h1.2.1, rd, e, q⟩⟩
theorem pe_2 {r : R2} {g : D → D → Mem → Option D} (h : ∀ t u, PE X a t → PE X b u → PE X e (tOp r t u)) (hr : ∀ x y H Q, rD2 X.K X.mg S.T g x y H Q → r x y H Q) (ha : PE X a (TEm X S W <| ma)) (hb : PE X b (TEm X S W <| mb)) : PE X e (TEm X S W <| e2 g ma mb) :=
  PEi (h _ _ ha hb) fun σ H Q ⟨w, δ, μ, h⟩ => ⟨w, δ, μ, (At.bind h).mono fun x H1 ⟨w1, μ1, d, le, rd, h1⟩ => ⟨w1, δ, μ1, (At.bind h1).mono fun y H2 ⟨w2, μ2, f, le2, re, h2⟩ => by
    obtain ⟨z, e, q⟩ := h2.opt
    exact hr _ _ _ _ ⟨w2, μ2, d, f, z, h2.2.1, rd.mono le2, re, e, q⟩⟩⟩
theorem pe_As {r : List V → Hp → VK → Prop} {g : List D → Mem → Option D} (h : ∀ t, PA X es t → PE X e (tCB r t)) (hr : ∀ x H Q, rDs X.K X.mg S.T g x H Q → r x H Q) (ha : PA X es (TAm X S W <| mr)) : PE X e (TEm X S W <| eAs g mr) :=
  PEi (h _ ha) fun σ H Q ⟨w, δ, μ, h⟩ => ⟨w, δ, μ, (At.bind h).mono fun x H1 ⟨w1, μ1, d, le, rd, h1⟩ => by
    obtain ⟨z, e, q⟩ := h1.opt
    exact hr _ _ _ ⟨w1, μ1, d, z, h1.2.1, rd, e, q⟩⟩
theorem pa_nil' : PA X [] (TAm X S W <| aNil) := PAi pa_nil fun σ H Q ⟨w, δ, μ, h⟩ => h.2.2 w [] H (Wd.Le.refl _) h.2.1 .nil
theorem pa_cons' (ha : PE X a (TEm X S W <| ma)) (hr : PA X es (TAm X S W <| mr)) (hs : starEach (a :: es) X.env = (false, eval a X.env) :: starEach es X.env := by rfl) : PA X (a :: es) (TAm X S W <| aCons ma mr) :=
  PAi (pa_cons ha hr hs) fun σ H Q ⟨w, δ, μ, h⟩ => ⟨w, δ, μ, (At.bind h).mono fun x H1 ⟨w1, μ1, d, le, rd, h1⟩ => ⟨w1, δ, μ1, (At.bind h1).mono fun y H2 ⟨w2, μ2, f, le2, re, h2⟩ =>
    h2.2.2 w2 (x :: y) H2 (Wd.Le.refl _) h2.2.1 (.cons (rd.mono le2) re)⟩⟩
/-- a tuple, a list of items -/
def gTupD : List D → Mem → Option D := fun ds _ => if ds.length ≤ sizeLine then some (.tup ds) else none
def gLstD : List D → Mem → Option D := fun ds _ => if ds.length ≤ sizeLine then some (.lst ds) else none
theorem pe_tup' {x1} (h : PA X es (TAm X S W <| mr)) : PE X (.Tuple es x1 pos) (TEm X S W <| eAs gTupD mr) :=
  pe_As (r := fun xs H1 Q => xs.length ≤ sizeLine ∧ ∀ p, H1 p = none → Q (.ref p) (upd H1 p (.tup xs))) (fun t h => pe_tup h) (fun xs H Q ⟨w, μ, ds, d, r, rs, e, q⟩ => by
    unfold gTupD at e
    split at e
    · next hl =>
      cases e
      exact ⟨by rw [← rs.length]; exact hl, q.tup r rs⟩
    · cases e) h
theorem pe_lst' (h : PA X es (TAm X S W <| mr)) : PE X (.List es pos) (TEm X S W <| eAs gLstD mr) :=
  pe_As (r := fun xs H1 Q => xs.length ≤ sizeLine ∧ ∀ p, H1 p = none → Q (.ref p) (upd H1 p (.lst xs))) (fun t h => pe_lst h) (fun xs H Q ⟨w, μ, ds, d, r, rs, e, q⟩ => by
    unfold gLstD at e
    split at e
    · next hl =>
      cases e
      exact ⟨by rw [← rs.length]; exact hl, q.lst r rs⟩
    · cases e) h
/-- truth -/
theorem truD_rel {K : PySem.W.Frag} {mg : Str → Option Value} {T : List (Addr × Str)} {w : Wd} {μ : Mem} {H : Hp} {d : D} {v : V} {k : Bool} (r : RelM K mg T w μ H) (rd : RelD K mg w d v) (h : truD μ d = some k) : TruV K v H k := by
  cases rd with
  | non => cases h; rfl
  | bl b => cases h; rfl
  | int i => cases h; rfl
  | str y =>
    simp only [truD] at h
    split at h
    · next hl => cases h; exact ⟨hl, rfl⟩
    · cases h
  | tup e rs =>
    cases h
    refine .inr (.inl ⟨_, sqT_mono r.φ e, ?_⟩)
    cases rs <;> rfl
  | lst e rs =>
    cases h
    refine .inl ⟨_, .inl (.inl (r.φ _ _ e)), ?_⟩
    cases rs <;> rfl
  | scr e rs =>
    cases h
    refine .inl ⟨_, scr_H r e, ?_⟩
    cases rs <;> rfl
  | @loc l hl =>
    simp only [truD] at h
    split at h
    · next xs q =>
      cases h
      obtain ⟨vs, h1, h2⟩ := r.lst q
      refine .inl ⟨vs, .inl (.inl h1), ?_⟩
      cases h2 <;> rfl
    · next kvs q =>
      cases h
      have z := (r.ob _ _ q).1
      generalize e : H (w.ρ l) = o at z
      cases z with
      | @dct _ gs hk hv =>
        refine .inr (.inr ⟨gs, e, ?_⟩)
        have : kvs.length = gs.length := by have := congrArg List.length hk; simpa using this
        cases kvs <;> cases gs <;> simp_all
    · cases h
  | _ => cases h
theorem pt_tru' (ha : PE X a (TEm X S W <| ma)) (he : ∀ whole, isTrue a X.env whole = (do let v ← whole; standAt a.pos; holding [v] (truthy v)) := by intro _; rfl) : PT X a (TTm X S W <| tTru ma) :=
  PTi (pt_truth ha he) fun σ H Q ⟨w, δ, μ, h⟩ => ⟨w, δ, μ, (At.bind h).mono fun x H1 ⟨w1, μ1, d, le, rd, h1⟩ => by
    have h3 := h1.2.2
    cases e : truD μ1 d with
    | none => rw [e] at h3; exact h3.elim
    | some k => rw [e] at h3; exact ⟨k, truD_rel h1.2.1 rd e, h3 w1 k H1 (Wd.Le.refl _) h1.2.1 rfl⟩⟩
theorem pt_not' (ha : PT X a (TTm X S W <| mt)) : PT X (.UnaryOp .Not a pos) (TTm X S W <| tNotM mt) :=
  PTi (pt_not ha) fun σ H Q ⟨w, δ, μ, h⟩ => ⟨w, δ, μ, (At.bind h).mono fun x H1 ⟨w1, μ1, d, le, rd, h1⟩ => by
    cases rd
    exact h1.2.2 w1 _ H1 (Wd.Le.refl _) h1.2.1 rfl⟩
theorem pe_ifExp' (hc : PT X c (TTm X S W <| mt)) (ha : PE X a (TEm X S W <| ma)) (hb : PE X b (TEm X S W <| mb)) : PE X (.IfExp c a b pos) (TEm X S W <| eIfM mt ma mb) :=
  PEi (pe_ifExp hc ha hb) fun σ H Q ⟨w, δ, μ, h⟩ => ⟨w, δ, μ, (At.bind h).mono fun x H1 ⟨w1, μ1, d, le, rd, h1⟩ => by
    cases rd
    split
    · next hx => rw [if_pos hx] at h1; exact h1.tM
    · next hx => rw [if_neg hx] at h1; exact h1.tM⟩
theorem pw_and1' (ha : PT X a (TTm X S W mt)) : PW X (.BoolOp .And [a] pos) (TTm X S W mt) := pw_and1 ha
theorem pw_or1' (ha : PT X a (TTm X S W mt)) : PW X (.BoolOp .Or [a] pos) (TTm X S W mt) := pw_or1 ha
theorem PWi {e : Expr} {t t' : TT} (h : PW X e t') (i : ∀ σ H Q, t σ H Q → t' σ H Q) : PW X e t := ⟨fun wh pins s σ H Q I q => h.run wh pins s σ H Q I (i _ _ _ q)⟩
theorem pw_and' (ha : PT X a (TTm X S W mt)) (hb : PW X (.BoolOp .And (b :: es) pos) (TTm X S W mu)) : PW X (.BoolOp .And (a :: b :: es) pos) (TTm X S W <| tAndM mt mu) :=
  PWi (pw_and ha hb) fun σ H Q ⟨w, δ, μ, h⟩ => ⟨w, δ, μ, (At.bind h).mono fun x H1 ⟨w1, μ1, d, le, rd, h1⟩ => by
    cases rd
    split
    · next hx => rw [if_pos hx] at h1; exact h1.tM
    · next hx =>
      rw [if_neg hx] at h1
      exact h1.2.2 w1 _ H1 (Wd.Le.refl _) h1.2.1 rfl⟩
theorem pw_or' (ha : PT X a (TTm X S W mt)) (hb : PW X (.BoolOp .Or (b :: es) pos) (TTm X S W mu)) : PW X (.BoolOp .Or (a :: b :: es) pos) (TTm X S W <| tOrM mt mu) :=
  PWi (pw_or ha hb) fun σ H Q ⟨w, δ, μ, h⟩ => ⟨w, δ, μ, (At.bind h).mono fun x H1 ⟨w1, μ1, d, le, rd, h1⟩ => by
    cases rd
    split
    · next hx =>
      rw [if_pos hx] at h1
      exact h1.2.2 w1 _ H1 (Wd.Le.refl _) h1.2.1 rfl
    · next hx => rw [if_neg hx] at h1; exact h1.tM⟩
theorem pe_not' (ha : PE X a (TEm X S W ma)) : PE X (.UnaryOp .Not a pos) (TEm X S W <| eNotM ma) :=
  PEi (pe_notT ha) fun σ H Q ⟨w, δ, μ, h⟩ => ⟨w, δ, μ, (At.bind h).mono fun x H1 ⟨w1, μ1, d, le, rd, h1⟩ => by
    have h3 := h1.2.2
    cases e : truD μ1 d with
    | none => rw [e] at h3; exact h3.elim
    | some k => rw [e] at h3; exact ⟨k, truD_rel h1.2.1 rd e, h3 w1 _ H1 (Wd.Le.refl _) h1.2.1 (.bl _)⟩⟩
theorem pe_and1' (ha : PE X a (TEm X S W ma)) : PE X (.BoolOp .And [a] pos) (TEm X S W ma) := pe_one ha
theorem pe_or1' (ha : PE X a (TEm X S W ma)) : PE X (.BoolOp .Or [a] pos) (TEm X S W ma) := pe_one ha
theorem pe_and' (ha : PE X a (TEm X S W ma)) (hb : PE X (.BoolOp .And (b :: es) pos) (TEm X S W mb)) : PE X (.BoolOp .And (a :: b :: es) pos) (TEm X S W <| eAndM ma mb) :=
  PEi (pe_andT ha hb) fun σ H Q ⟨w, δ, μ, h⟩ => ⟨w, δ, μ, (At.bind h).mono fun x H1 ⟨w1, μ1, d, le, rd, h1⟩ => by
    have h3 := h1
    cases e : truD μ1 d with
    | none => rw [e] at h3; exact h3.2.2.elim
    | some k =>
      rw [e] at h3
      refine ⟨k, truD_rel h1.2.1 rd e, ?_⟩
      have h4 : At X.K X.mg S W (RelD X.K X.mg) σ Q w1 δ μ1 H1 (if k = true then mb δ μ1 else .ok d μ1) := h3
      split
      · next hx => rw [if_pos hx] at h4; exact h4.tM
      · next hx => rw [if_neg hx] at h4; exact h4.2.2 w1 _ H1 (Wd.Le.refl _) h4.2.1 rd⟩
theorem pe_or' (ha : PE X a (TEm X S W ma)) (hb : PE X (.BoolOp .Or (b :: es) pos) (TEm X S W mb)) : PE X (.BoolOp .Or (a :: b :: es) pos) (TEm X S W <| eOrM ma mb) :=
  PEi (pe_orT ha hb) fun σ H Q ⟨w, δ, μ, h⟩ => ⟨w, δ, μ, (At.bind h).mono fun x H1 ⟨w1, μ1, d, le, rd, h1⟩ => by
    have h3 := h1
    cases e : truD μ1 d with
    | none => rw [e] at h3; exact h3.2.2.elim
    | some k =>
      rw [e] at h3
      refine ⟨k, truD_rel h1.2.1 rd e, ?_⟩
      have h4 : At X.K X.mg S W (RelD X.K X.mg) σ Q w1 δ μ1 H1 (if k = true then .ok d μ1 else mb δ μ1) := h3
      split
      · next hx => rw [if_pos hx] at h4; exact h4.2.2 w1 _ H1 (Wd.Le.refl _) h4.2.1 rd
      · next hx => rw [if_neg hx] at h4; exact h4.tM⟩
end
end Kw

set_option Elab.async false
set_option linter.all false
set_option maxRecDepth 100000
namespace Kw
open PySem PySem.Spec PyProof.Rows L2

/-! ### data as the library's data -/
mutual
def pyW (f : Nat → Option PyData) : D → Option PyData
  | .non => some .none
  | .bl b => some (.bool b)
  | .int i => some (.int i)
  | .str x => some (.str x)
  | .tup xs => match pyWs f xs with
    | some ps => some (.tuple ps)
    | none => none
  | .lst xs => match pyWs f xs with
    | some ps => some (.list ps)
    | none => none
  | .scr xs => match pyWs f xs with
    | some ps => some (.list ps)
    | none => none
  | .loc l => f l
  | _ => none
def pyWs (f : Nat → Option PyData) : List D → Option (List PyData)
  | [] => some []
  | d :: ds => match pyW f d, pyWs f ds with
    | some p, some ps => some (p :: ps)
    | _, _ => none
end
def pyL (μ : Mem) : Nat → Nat → Option PyData
  | 0, _ => none
  | n + 1, l => match μ[l]? with
    | some (.lst xs) => match pyWs (pyL μ n) xs with
      | some ps => some (.list ps)
      | none => none
    | _ => none
def pyOf (μ : Mem) (d : D) : Option PyData := pyW (pyL μ 4) d

section
variable {K : PySem.W.Frag} {mg : Str → Option Value} {T : List (Addr × Str)} {w : Wd} {μ : Mem} {H : Hp}
mutual
theorem pyW_dp (r : RelM K mg T w μ H) {f : Nat → Option PyData} (hf : ∀ l p, f l = some p → Dp K H (.ref (w.ρ l)) p) : ∀ (d : D) (v : V) (p : PyData), RelD K mg w d v → pyW f d = some p → Dp K H v p
  | .non, _, _, rd, h => by cases rd; cases h; exact .non
  | .bl b, _, _, rd, h => by cases rd; cases h; exact .bl b
  | .int i, _, _, rd, h => by cases rd; cases h; exact .int i
  | .str i, _, _, rd, h => by cases rd; cases h; exact .str i
  | .tup xs, _, _, rd, h => by
    cases rd with
    | tup e rs =>
      simp only [pyW] at h
      split at h
      · next ps hp => cases h; exact .tup (sqT_mono r.φ e) (pyWs_dp r hf xs _ _ rs hp)
      · cases h
  | .lst xs, _, _, rd, h => by
    cases rd with
    | lst e rs =>
      simp only [pyW] at h
      split at h
      · next ps hp => cases h; exact .lst (.inl (.inl (r.φ _ _ e))) (pyWs_dp r hf xs _ _ rs hp)
      · cases h
  | .scr xs, _, _, rd, h => by
    cases rd with
    | scr e rs =>
      simp only [pyW] at h
      split at h
      · next ps hp => cases h; exact .lst (scr_H r e) (pyWs_dp r hf xs _ _ rs hp)
      · cases h
  | .loc l, _, _, rd, h => by
    cases rd with
    | loc hl => exact hf l _ h
  | .dct _, _, _, _, h => by cases h
  | .brd _, _, _, _, h => by cases h
  | .glb _, _, _, _, h => by cases h
  | .ty _, _, _, _, h => by cases h
  | .ins _ _ _, _, _, _, h => by cases h
  | .lam, _, _, _, h => by cases h
  | .exc _ _, _, _, _, h => by cases h
theorem pyWs_dp (r : RelM K mg T w μ H) {f : Nat → Option PyData} (hf : ∀ l p, f l = some p → Dp K H (.ref (w.ρ l)) p) : ∀ (ds : List D) (vs : List V) (ps : List PyData), RelDs K mg w ds vs → pyWs f ds = some ps → DpAll K H vs ps
  | [], _, _, rd, h => by cases rd; cases h; exact .nil
  | d :: ds, _, _, rd, h => by
    cases rd with
    | cons r1 r2 =>
      simp only [pyWs] at h
      split at h
      · next p ps hp hps => cases h; exact .cons (pyW_dp r hf d _ _ r1 hp) (pyWs_dp r hf ds _ _ r2 hps)
      · cases h
end
theorem pyL_dp (r : RelM K mg T w μ H) : ∀ (n l : Nat) (p : PyData), pyL μ n l = some p → Dp K H (.ref (w.ρ l)) p
  | 0, l, p, h => by cases h
  | n + 1, l, p, h => by
    simp only [pyL] at h
    split at h
    · next xs q =>
      obtain ⟨vs, h1, h2⟩ := r.lst q
      split at h
      · next ps hp => cases h; exact .lst (.inl (.inl h1)) (pyWs_dp r (pyL_dp r n) _ _ _ h2 hp)
      · cases h
    · cases h
theorem pyOf_dp (r : RelM K mg T w μ H) {d : D} {v : V} {p : PyData} (rd : RelD K mg w d v) (h : pyOf μ d = some p) : Dp K H v p := pyW_dp r (fun l p => pyL_dp r 4 l p) d v p rd h
end

/-! ### operators -/
def gAdd : D → D → Mem → Option D
  | .int i, .int j, _ => some (.int (i + j))
  | .str a, .str b, _ => if a.length + b.length ≤ sizeLine then some (.str (a ++ b)) else none
  | .tup a, .tup b, _ => if a.length + b.length ≤ sizeLine then some (.tup (a ++ b)) else none
  | x, y, μ => match lstX μ x, lstX μ y with
    | some a, some b => if a.length + b.length ≤ sizeLine then some (.lst (a ++ b)) else none
    | _, _ => none
def gSub : D → D → Mem → Option D
  | .int i, .int j, _ => some (.int (i - j))
  | _, _, _ => none
def gMul : D → D → Mem → Option D
  | .int i, .int j, _ => if ((-(18446744073709551616) < i ∧ i < 18446744073709551616) ∨ (-(18446744073709551616) < j ∧ j < 18446744073709551616)) ∨ i.natAbs.log2 + j.natAbs.log2 < 1000000 then some (.int (i * j)) else none
  | _, _, _ => none
def gMod : D → D → Mem → Option D
  | .int i, .int j, _ => if 0 < j then some (.int (i % j)) else none
  | _, _, _ => none
def gFdv : D → D → Mem → Option D
  | .int i, .int j, _ => if 0 < j ∧ (j < 1073741824 ∨ j.natAbs.log2 < 9000) then some (.int (i / j)) else none
  | _, _, _ => none
def gPow : D → D → Mem → Option D
  | .int i, .int j, _ => if 0 ≤ j ∧ j ≤ 1000000 ∧ i.natAbs < 18446744073709551616 then some (.int (i ^ j.toNat)) else none
  | _, _, _ => none
def gLt : D → D → Mem → Option D
  | .int i, .int j, _ => some (.bl (decide (i < j)))
  | _, _, _ => none
def gLe : D → D → Mem → Option D
  | .int i, .int j, _ => some (.bl (decide (i ≤ j)))
  | _, _, _ => none
def gGt : D → D → Mem → Option D
  | .int i, .int j, _ => some (.bl (decide (j < i)))
  | _, _, _ => none
def gGe : D → D → Mem → Option D
  | .int i, .int j, _ => some (.bl (decide (j ≤ i)))
  | _, _, _ => none
def eqD (x y : D) (μ : Mem) : Option Bool := match pyOf μ x, pyOf μ y with
  | some p, some q => if (SeqAt.shaped p && SeqAt.shaped q) = true then some (PyData.eqv p q) else none
  | _, _ => none
def gEq (x y : D) (μ : Mem) : Option D := match eqD x y μ with
  | some b => some (.bl b)
  | none => none
def gNe (x y : D) (μ : Mem) : Option D := match eqD x y μ with
  | some b => some (.bl !b)
  | none => none
def isD : D → D → Option Bool
  | .non, .non => some true
  | _, .non => some false
  | .bl a, .bl b => some (decide (a = b))
  | _, _ => none
def gIs (x y : D) (_ : Mem) : Option D := match isD x y with
  | some b => some (.bl b)
  | none => none
def gIsNot (x y : D) (_ : Mem) : Option D := match isD x y with
  | some b => some (.bl !b)
  | none => none
section
variable {K : PySem.W.Frag} {mg : Str → Option Value} {T : List (Addr × Str)} {x y : V} {H : Hp} {Q : VK}
theorem add_r (h : rD2 K mg T gAdd x y H Q) : rI0 (fun i j => .int (i + j)) x y H Q ∨ (∃ i j, x = .str i ∧ y = .str j ∧ i.length + j.length ≤ sizeLine ∧ Q (.str (i ++ j)) H) ∨ rCatA K x y H Q ∨ rCat x y H Q := by
  obtain ⟨w, μ, dx, dy, d, r, rx, ry, e, q⟩ := h
  unfold gAdd at e
  split at e
  · cases rx; cases ry; cases e
    exact .inl ⟨_, _, rfl, rfl, q.same r (.int _)⟩
  · cases rx; cases ry
    split at e
    · next hl => cases e; exact .inr (.inl ⟨_, _, rfl, rfl, hl, q.same r (.str _)⟩)
    · cases e
  · next as bs =>
    split at e
    · next hl =>
      cases e
      obtain ⟨a, vs, rfl, h1, h2⟩ := tupOf_rel r rx rfl
      obtain ⟨b, us, rfl, h3, h4⟩ := tupOf_rel r ry rfl
      refine .inr (.inr (.inl ⟨a, b, vs, us, rfl, rfl, h1, h3, by rw [← h2.length, ← h4.length]; exact hl, fun e => ?_, fun _ e => ?_, fun _ _ => ?_⟩))
      · subst e
        cases h2
        exact q.same r ry
      · subst e
        cases h4
        rw [List.append_nil] at q
        exact q.same r rx
      · exact q.tup r (h2.append h4)
    · cases e
  · split at e
    · next as bs ea eb =>
      split at e
      · next hl =>
        cases e
        obtain ⟨a, vs, rfl, h1, h2⟩ := lstX_rel r rx ea
        obtain ⟨b, us, rfl, h3, h4⟩ := lstX_rel r ry eb
        exact .inr (.inr (.inr ⟨a, b, vs, us, rfl, rfl, h1, h3, by rw [← h2.length, ← h4.length]; exact hl, q.lst r (h2.append h4)⟩))
      · cases e
    · cases e
theorem sub_r (h : rD2 K mg T gSub x y H Q) : rI0 (fun i j => .int (i - j)) x y H Q := by
  obtain ⟨w, μ, dx, dy, d, r, rx, ry, e, q⟩ := h
  unfold gSub at e
  split at e
  · cases rx; cases ry; cases e
    exact ⟨_, _, rfl, rfl, q.same r (.int _)⟩
  · cases e
theorem mul_r (h : rD2 K mg T gMul x y H Q) : rI CMul (fun i j => .int (i * j)) x y H Q ∨ rI CMulW (fun i j => .int (i * j)) x y H Q := by
  obtain ⟨w, μ, dx, dy, d, r, rx, ry, e, q⟩ := h
  unfold gMul at e
  split at e
  · cases rx; cases ry
    split at e
    · next hc =>
      cases e
      rcases hc with hc | hc
      · exact .inl ⟨_, _, rfl, rfl, hc, q.same r (.int _)⟩
      · exact .inr ⟨_, _, rfl, rfl, hc, q.same r (.int _)⟩
    · cases e
  · cases e
theorem mod_r (h : rD2 K mg T gMod x y H Q) : rI (fun _ j => 0 < j) (fun i j => .int (i % j)) x y H Q := by
  obtain ⟨w, μ, dx, dy, d, r, rx, ry, e, q⟩ := h
  unfold gMod at e
  split at e
  · cases rx; cases ry
    split at e
    · next hc => cases e; exact ⟨_, _, rfl, rfl, hc, q.same r (.int _)⟩
    · cases e
  · cases e
theorem fdv_r (h : rD2 K mg T gFdv x y H Q) : rI CDiv (fun i j => .int (i / j)) x y H Q ∨ rI CDivW (fun i j => .int (i / j)) x y H Q := by
  obtain ⟨w, μ, dx, dy, d, r, rx, ry, e, q⟩ := h
  unfold gFdv at e
  split at e
  · cases rx; cases ry
    split at e
    · next hc =>
      cases e
      obtain ⟨h0, hc | hc⟩ := hc
      · exact .inl ⟨_, _, rfl, rfl, ⟨h0, hc⟩, q.same r (.int _)⟩
      · exact .inr ⟨_, _, rfl, rfl, ⟨h0, hc⟩, q.same r (.int _)⟩
    · cases e
  · cases e
theorem pow_r (h : rD2 K mg T gPow x y H Q) : rI CPow (fun i j => .int (i ^ j.toNat)) x y H Q := by
  obtain ⟨w, μ, dx, dy, d, r, rx, ry, e, q⟩ := h
  unfold gPow at e
  split at e
  · cases rx; cases ry
    split at e
    · next hc => cases e; exact ⟨_, _, rfl, rfl, ⟨hc.1, hc.2.1, by have := hc.2.2; omega⟩, q.same r (.int _)⟩
    · cases e
  · cases e
theorem lt_r (h : rD2 K mg T gLt x y H Q) : rI0 (fun i j => .bl (decide (i < j))) x y H Q := by
  obtain ⟨w, μ, dx, dy, d, r, rx, ry, e, q⟩ := h
  unfold gLt at e
  split at e
  · cases rx; cases ry; cases e
    exact ⟨_, _, rfl, rfl, q.same r (.bl _)⟩
  · cases e
theorem le_r (h : rD2 K mg T gLe x y H Q) : rI0 (fun i j => .bl (decide (i ≤ j))) x y H Q := by
  obtain ⟨w, μ, dx, dy, d, r, rx, ry, e, q⟩ := h
  unfold gLe at e
  split at e
  · cases rx; cases ry; cases e
    exact ⟨_, _, rfl, rfl, q.same r (.bl _)⟩
  · cases e
theorem gt_r (h : rD2 K mg T gGt x y H Q) : rI0 (fun i j => .bl (decide (j < i))) x y H Q := by
  obtain ⟨w, μ, dx, dy, d, r, rx, ry, e, q⟩ := h
  unfold gGt at e
  split at e
  · cases rx; cases ry; cases e
    exact ⟨_, _, rfl, rfl, q.same r (.bl _)⟩
  · cases e
theorem ge_r (h : rD2 K mg T gGe x y H Q) : rI0 (fun i j => .bl (decide (j ≤ i))) x y H Q := by
  obtain ⟨w, μ, dx, dy, d, r, rx, ry, e, q⟩ := h
  unfold gGe at e
  split at e
  · cases rx; cases ry; cases e
    exact ⟨_, _, rfl, rfl, q.same r (.bl _)⟩
  · cases e
theorem eqD_r {w : Wd} {μ : Mem} {dx dy : D} {b : Bool} (r : RelM K mg T w μ H) (rx : RelD K mg w dx x) (ry : RelD K mg w dy y) (e : eqD dx dy μ = some b) : ∃ p q, Dp K H x p ∧ Dp K H y q ∧ SeqAt.shaped p = true ∧ SeqAt.shaped q = true ∧ b = PyData.eqv p q := by
  unfold eqD at e
  split at e
  · next p q hp hq =>
    split at e
    · next hs =>
      cases e
      rw [Bool.and_eq_true] at hs
      exact ⟨p, q, pyOf_dp r rx hp, pyOf_dp r ry hq, hs.1, hs.2, rfl⟩
    · cases e
  · cases e
theorem eq_r (h : rD2 K mg T gEq x y H Q) : rEqD K x y H Q := by
  obtain ⟨w, μ, dx, dy, d, r, rx, ry, e, q⟩ := h
  unfold gEq at e
  split at e
  · next b hb =>
    cases e
    obtain ⟨p, p', h1, h2, h3, h4, rfl⟩ := eqD_r r rx ry hb
    exact ⟨p, p', h1, h2, h3, h4, q.same r (.bl _)⟩
  · cases e
theorem ne_r (h : rD2 K mg T gNe x y H Q) : rNeD K x y H Q := by
  obtain ⟨w, μ, dx, dy, d, r, rx, ry, e, q⟩ := h
  unfold gNe at e
  split at e
  · next b hb =>
    cases e
    obtain ⟨p, p', h1, h2, h3, h4, rfl⟩ := eqD_r r rx ry hb
    exact ⟨p, p', h1, h2, h3, h4, q.same r (.bl _)⟩
  · cases e
theorem isD_r {w : Wd} {dx dy : D} {b : Bool} (rx : RelD K mg w dx x) (ry : RelD K mg w dy y) (e : isD dx dy = some b) : (y = .non ∧ b = decide (x = .non)) ∨ ∃ k j : Bool, x = .bl k ∧ y = .bl j ∧ b = decide (k = j) := by
  unfold isD at e
  split at e
  · cases rx; cases ry; cases e; exact .inl ⟨rfl, by simp⟩
  · next hn =>
    cases ry; cases e
    refine .inl ⟨rfl, ?_⟩
    cases rx <;> simp at *
  · cases rx; cases ry; cases e
    exact .inr ⟨_, _, rfl, rfl, rfl⟩
  · cases e
theorem is_r (h : rD2 K mg T gIs x y H Q) : (y = .non ∧ Q (.bl (decide (x = .non))) H) ∨ rIsB x y H Q := by
  obtain ⟨w, μ, dx, dy, d, r, rx, ry, e, q⟩ := h
  unfold gIs at e
  split at e
  · next b hb =>
    cases e
    rcases isD_r rx ry hb with ⟨h1, rfl⟩ | ⟨k, j, h1, h2, rfl⟩
    · exact .inl ⟨h1, q.same r (.bl _)⟩
    · exact .inr ⟨k, j, h1, h2, q.same r (.bl _)⟩
  · cases e
theorem isNot_r (h : rD2 K mg T gIsNot x y H Q) : (y = .non ∧ Q (.bl (!decide (x = .non))) H) ∨ rNotB x y H Q := by
  obtain ⟨w, μ, dx, dy, d, r, rx, ry, e, q⟩ := h
  unfold gIsNot at e
  split at e
  · next b hb =>
    cases e
    rcases isD_r rx ry hb with ⟨h1, rfl⟩ | ⟨k, j, h1, h2, rfl⟩
    · exact .inl ⟨h1, q.same r (.bl _)⟩
    · exact .inr ⟨k, j, h1, h2, q.same r (.bl _)⟩
  · cases e
end
section
variable {X : Cx} {S : SI} {W : WX} {a b : Expr} {ma mb : EM} {pos : Pos}
theorem pe_add' (ha : PE X a (TEm X S W ma)) (hb : PE X b (TEm X S W mb)) : PE X (.BinOp a .Add b pos) (TEm X S W <| e2 gAdd ma mb) := pe_2 (fun t u => pe_op (op_add.or (op_add_str.or (op_catA.or op_cat)))) (fun _ _ _ _ => add_r) ha hb
theorem pe_sub' (ha : PE X a (TEm X S W ma)) (hb : PE X b (TEm X S W mb)) : PE X (.BinOp a .Sub b pos) (TEm X S W <| e2 gSub ma mb) := pe_2 (fun t u => pe_op op_sub) (fun _ _ _ _ => sub_r) ha hb
theorem pe_mul' (ha : PE X a (TEm X S W ma)) (hb : PE X b (TEm X S W mb)) : PE X (.BinOp a .Mult b pos) (TEm X S W <| e2 gMul ma mb) := pe_2 (fun t u => pe_op (op_mul.or op_mulW)) (fun _ _ _ _ => mul_r) ha hb
theorem pe_mod' (ha : PE X a (TEm X S W ma)) (hb : PE X b (TEm X S W mb)) : PE X (.BinOp a .Mod b pos) (TEm X S W <| e2 gMod ma mb) := pe_2 (fun t u => pe_op op_mod) (fun _ _ _ _ => mod_r) ha hb
theorem pe_fdv' (ha : PE X a (TEm X S W ma)) (hb : PE X b (TEm X S W mb)) : PE X (.BinOp a .FloorDiv b pos) (TEm X S W <| e2 gFdv ma mb) := pe_2 (fun t u => pe_op (op_fdiv.or op_fdivW)) (fun _ _ _ _ => fdv_r) ha hb
theorem pe_pow' (ha : PE X a (TEm X S W ma)) (hb : PE X b (TEm X S W mb)) : PE X (.BinOp a .Pow b pos) (TEm X S W <| e2 gPow ma mb) := pe_2 (fun t u => pe_op op_pow) (fun _ _ _ _ => pow_r) ha hb
theorem pe_lt' (ha : PE X a (TEm X S W ma)) (hb : PE X b (TEm X S W mb)) : PE X (.Compare a [.Lt] [b] pos) (TEm X S W <| e2 gLt ma mb) := pe_2 (fun t u ha hb => pe_cmpR op_lt ha hb (nomark b)) (fun _ _ _ _ => lt_r) ha hb
theorem pe_le' (ha : PE X a (TEm X S W ma)) (hb : PE X b (TEm X S W mb)) : PE X (.Compare a [.LtE] [b] pos) (TEm X S W <| e2 gLe ma mb) := pe_2 (fun t u ha hb => pe_cmpR op_le ha hb (nomark b)) (fun _ _ _ _ => le_r) ha hb
theorem pe_gt' (ha : PE X a (TEm X S W ma)) (hb : PE X b (TEm X S W mb)) : PE X (.Compare a [.Gt] [b] pos) (TEm X S W <| e2 gGt ma mb) := pe_2 (fun t u ha hb => pe_cmpR op_gt ha hb (nomark b)) (fun _ _ _ _ => gt_r) ha hb
theorem pe_ge' (ha : PE X a (TEm X S W ma)) (hb : PE X b (TEm X S W mb)) : PE X (.Compare a [.GtE] [b] pos) (TEm X S W <| e2 gGe ma mb) := pe_2 (fun t u ha hb => pe_cmpR op_ge ha hb (nomark b)) (fun _ _ _ _ => ge_r) ha hb
theorem pe_eq' (hu : X.A.units + 64 < cLine) (ha : PE X a (TEm X S W ma)) (hb : PE X b (TEm X S W mb)) : PE X (.Compare a [.Eq] [b] pos) (TEm X S W <| e2 gEq ma mb) := pe_2 (fun t u ha hb => pe_cmpR (op_eqD hu) ha hb (nomark b)) (fun _ _ _ _ => eq_r) ha hb
theorem pe_ne' (hu : X.A.units + 64 < cLine) (ha : PE X a (TEm X S W ma)) (hb : PE X b (TEm X S W mb)) : PE X (.Compare a [.NotEq] [b] pos) (TEm X S W <| e2 gNe ma mb) := pe_2 (fun t u ha hb => pe_cmpR (op_neD hu) ha hb (nomark b)) (fun _ _ _ _ => ne_r) ha hb
theorem pe_is' (ha : PE X a (TEm X S W ma)) (hb : PE X b (TEm X S W mb)) : PE X (.Compare a [.Is] [b] pos) (TEm X S W <| e2 gIs ma mb) := pe_2 (fun t u ha hb => pe_cmpR (op_isN.or op_isBl) ha hb (nomark b)) (fun _ _ _ _ => is_r) ha hb
theorem pe_isNot' (ha : PE X a (TEm X S W ma)) (hb : PE X b (TEm X S W mb)) : PE X (.Compare a [.IsNot] [b] pos) (TEm X S W <| e2 gIsNot ma mb) := pe_2 (fun t u ha hb => pe_cmpR (op_notN.or op_notBl) ha hb (nomark b)) (fun _ _ _ _ => isNot_r) ha hb
end
end Kw

set_option Elab.async false
set_option linter.all false
set_option maxRecDepth 100000
namespace Kw
open PySem PySem.Spec PyProof.Rows L2

/-! ### two readings of one piece -/
theorem PEor {X : Cx} {e : Expr} {t t' : TE} (h : PE X e t) (h' : PE X e t') : PE X e (fun σ H Q => t σ H Q ∨ t' σ H Q) := ⟨fun pins s σ H Q I q => q.elim (h.run pins s σ H Q I) (h'.run pins s σ H Q I)⟩
theorem PTor {X : Cx} {e : Expr} {t t' : TT} (h : PT X e t) (h' : PT X e t') : PT X e (fun σ H Q => t σ H Q ∨ t' σ H Q) := ⟨fun pins s σ H Q I q => q.elim (h.run pins s σ H Q I) (h'.run pins s σ H Q I)⟩
def gOr2 (g g' : D → D → Mem → Option D) : D → D → Mem → Option D := fun x y μ => match g x y μ with
  | some d => some d
  | none => g' x y μ
theorem e2_or (g g' : D → D → Mem → Option D) (ma mb : EM) (δ : Sv) (μ : Mem) : e2 (gOr2 g g') ma mb δ μ = e2 g ma mb δ μ ∨ e2 (gOr2 g g') ma mb δ μ = e2 g' ma mb δ μ := by
  unfold e2
  cases ma δ μ with
  | stuck => exact .inl rfl
  | exc x μ' => exact .inl rfl
  | ok x μ1 =>
    show ((mb δ μ1).bind _ = (mb δ μ1).bind _) ∨ ((mb δ μ1).bind _ = (mb δ μ1).bind _)
    cases mb δ μ1 with
    | stuck => exact .inl rfl
    | exc x μ' => exact .inl rfl
    | ok y μ2 =>
      show (oOf (gOr2 g g' x y μ2) μ2 = oOf (g x y μ2) μ2) ∨ (oOf (gOr2 g g' x y μ2) μ2 = oOf (g' x y μ2) μ2)
      unfold gOr2
      cases g x y μ2 with
      | none => exact .inr rfl
      | some d => exact .inl rfl
theorem pe_or2 {X : Cx} {S : SI} {W : WX} {e : Expr} {g g' : D → D → Mem → Option D} {ma mb : EM} (h : PE X e (TEm X S W <| e2 g ma mb)) (h' : PE X e (TEm X S W <| e2 g' ma mb)) : PE X e (TEm X S W <| e2 (gOr2 g g') ma mb) :=
  PEi (PEor h h') fun σ H Q ⟨w, δ, μ, q⟩ => (e2_or g g' ma mb δ μ).elim (fun e => .inl ⟨w, δ, μ, e ▸ q⟩) fun e => .inr ⟨w, δ, μ, e ▸ q⟩
/-- a test by an expression that is a bool -/
def tBl (m : EM) : TM := fun δ μ => (m δ μ).bind fun d μ1 => match d with
  | .bl b => .ok b μ1
  | _ => .stuck
theorem pt_cmp2 {X : Cx} {S : SI} {W : WX} {a b : Expr} {op : CmpOp} {pos : Pos} {ma mb : EM} {r : R2} {g : D → D → Mem → Option D} (ho : OpR X (compareOp op) r) (hm : behindInMarks op b = false) (hr : ∀ x y H Q, rD2 X.K X.mg S.T g x y H Q → r x y H Q) (ha : PE X a (TEm X S W ma)) (hb : PE X b (TEm X S W mb)) :
    PT X (.Compare a [op] [b] pos) (TTm X S W <| tBl (e2 g ma mb)) :=
  PTi (pt_cmpR ho ha hb hm) fun σ H Q ⟨w, δ, μ, h⟩ => ⟨w, δ, μ, (At.bind (R := RelD X.K X.mg) (R' := fun _ (a b : Bool) => a = b) (Q := Q) (o := ma δ μ) (f := fun x μ1 => ((mb δ μ1).bind fun y μ2 => oOf (g x y μ2) μ2).bind fun d μ1 => match d with
      | .bl b => .ok b μ1
      | _ => .stuck) (by unfold tBl e2 at h; cases q : ma δ μ <;> rw [q] at h <;> exact h)).mono fun x H1 ⟨w1, μ1, d, le, rd, h1⟩ => ⟨w1, δ, μ1, (At.bind (R := RelD X.K X.mg) (R' := fun _ (a b : Bool) => a = b) (Q := Q) (o := mb δ μ1) (f := fun y μ2 => (oOf (g d y μ2) μ2).bind fun d μ1 => match d with
      | .bl b => .ok b μ1
      | _ => .stuck) (by cases q : mb δ μ1 <;> rw [q] at h1 <;> exact h1)).mono fun y H2 ⟨w2, μ2, f, le2, re, h2⟩ => by
    cases q : g d f μ2 with
    | none => rw [q] at h2; exact h2.2.2.elim
    | some z =>
      rw [q] at h2
      refine hr _ _ _ _ ⟨w2, μ2, d, f, z, h2.2.1, rd.mono le2, re, q, fun w3 v H3 le3 r3 rz => ?_⟩
      cases z with
      | bl k =>
        cases rz
        exact ⟨k, rfl, h2.2.2 w3 k H3 le3 r3 rfl⟩
      | _ => exact h2.2.2.elim⟩⟩
section
variable {X : Cx} {S : SI} {W : WX} {a b : Expr} {ma mb : EM} {pos : Pos}
theorem pt_lt' (ha : PE X a (TEm X S W ma)) (hb : PE X b (TEm X S W mb)) : PT X (.Compare a [.Lt] [b] pos) (TTm X S W <| tBl (e2 gLt ma mb)) := pt_cmp2 op_lt (nomark b) (fun _ _ _ _ => lt_r) ha hb
theorem pt_le' (ha : PE X a (TEm X S W ma)) (hb : PE X b (TEm X S W mb)) : PT X (.Compare a [.LtE] [b] pos) (TTm X S W <| tBl (e2 gLe ma mb)) := pt_cmp2 op_le (nomark b) (fun _ _ _ _ => le_r) ha hb
theorem pt_gt' (ha : PE X a (TEm X S W ma)) (hb : PE X b (TEm X S W mb)) : PT X (.Compare a [.Gt] [b] pos) (TTm X S W <| tBl (e2 gGt ma mb)) := pt_cmp2 op_gt (nomark b) (fun _ _ _ _ => gt_r) ha hb
theorem pt_ge' (ha : PE X a (TEm X S W ma)) (hb : PE X b (TEm X S W mb)) : PT X (.Compare a [.GtE] [b] pos) (TTm X S W <| tBl (e2 gGe ma mb)) := pt_cmp2 op_ge (nomark b) (fun _ _ _ _ => ge_r) ha hb
theorem pt_eq' (hu : X.A.units + 64 < cLine) (ha : PE X a (TEm X S W ma)) (hb : PE X b (TEm X S W mb)) : PT X (.Compare a [.Eq] [b] pos) (TTm X S W <| tBl (e2 gEq ma mb)) := pt_cmp2 (op_eqD hu) (nomark b) (fun _ _ _ _ => eq_r) ha hb
theorem pt_ne' (hu : X.A.units + 64 < cLine) (ha : PE X a (TEm X S W ma)) (hb : PE X b (TEm X S W mb)) : PT X (.Compare a [.NotEq] [b] pos) (TTm X S W <| tBl (e2 gNe ma mb)) := pt_cmp2 (op_neD hu) (nomark b) (fun _ _ _ _ => ne_r) ha hb
theorem pt_is' (ha : PE X a (TEm X S W ma)) (hb : PE X b (TEm X S W mb)) : PT X (.Compare a [.Is] [b] pos) (TTm X S W <| tBl (e2 gIs ma mb)) := pt_cmp2 (op_isN.or op_isBl) (nomark b) (fun _ _ _ _ => is_r) ha hb
theorem pt_isNot' (ha : PE X a (TEm X S W ma)) (hb : PE X b (TEm X S W mb)) : PT X (.Compare a [.IsNot] [b] pos) (TTm X S W <| tBl (e2 gIsNot ma mb)) := pt_cmp2 (op_notN.or op_notBl) (nomark b) (fun _ _ _ _ => isNot_r) ha hb
end

/-! ### in -/
def flatD : D → Bool
  | .non => true
  | .bl _ => true
  | .int _ => true
  | .str _ => true
  | _ => false
def eqF : D → D → Bool
  | .non, .non => true
  | .bl a, .bl b => a == b
  | .bl a, .int b => (if a then 1 else 0) == b
  | .int a, .bl b => a == (if b then 1 else 0)
  | .int a, .int b => a == b
  | .str a, .str b => a == b
  | _, _ => false
/-- x in y: flat items; or a list of shaped things -/
def inF (x y : D) (μ : Mem) : Option Bool := match seqOf μ y with
  | some ys => if (flatD x && ys.all flatD) = true then some (ys.any fun z => eqF z x) else none
  | none => none
def inDp (x y : D) (μ : Mem) : Option Bool := match pyOf μ x, pyOf μ y with
  | some p, some (.list qs) => if (SeqAt.shaped p && SeqAt.shaped (.list qs)) = true then some (qs.any fun z => PyData.eqv z p) else none
  | _, _ => none
def gInF (x y : D) (μ : Mem) : Option D := (inF x y μ).map .bl
def gNinF (x y : D) (μ : Mem) : Option D := (inF x y μ).map fun b => .bl !b
def gInDp (x y : D) (μ : Mem) : Option D := (inDp x y μ).map .bl
def gNinDp (x y : D) (μ : Mem) : Option D := (inDp x y μ).map fun b => .bl !b
section
variable {K : PySem.W.Frag} {mg : Str → Option Value} {T : List (Addr × Str)} {x y : V} {H : Hp} {Q : VK}
theorem flatD_rel {w : Wd} {d : D} {v : V} (r : RelD K mg w d v) (h : flatD d = true) : flatV v = true := by
  cases r <;> first | rfl | cases h
theorem flatDs_rel {w : Wd} : ∀ {ds : List D} {vs : List V}, RelDs K mg w ds vs → ds.all flatD = true → vs.all flatV = true
  | _, _, .nil, _ => rfl
  | _, _, .cons r t, h => by
    rw [List.all_cons, Bool.and_eq_true] at h
    rw [List.all_cons, Bool.and_eq_true]
    exact ⟨flatD_rel r h.1, flatDs_rel t h.2⟩
theorem eqF_rel {w : Wd} {d e : D} {v u : V} (r : RelD K mg w d v) (r' : RelD K mg w e u) (h : flatD d = true) (h' : flatD e = true) : eqV v u = eqF d e := by
  cases r <;> cases r' <;> first | rfl | cases h | cases h'
theorem eqFs_rel {w : Wd} {e : D} {u : V} (r' : RelD K mg w e u) (h' : flatD e = true) : ∀ {ds : List D} {vs : List V}, RelDs K mg w ds vs → ds.all flatD = true → inV u vs = ds.any fun z => eqF z e
  | _, _, .nil, _ => rfl
  | _, _, .cons r t, h => by
    rw [List.all_cons, Bool.and_eq_true] at h
    have := eqFs_rel r' h' t h.2
    unfold inV at this ⊢
    rw [List.any_cons, List.any_cons, this, eqF_rel r r' h.1 h']
theorem inF_r {w : Wd} {μ : Mem} {dx dy : D} {b : Bool} (r : RelM K mg T w μ H) (rx : RelD K mg w dx x) (ry : RelD K mg w dy y) (e : inF dx dy μ = some b) : ∃ p xs, y = .ref p ∧ (SqL K H p xs ∨ SqT K H p xs) ∧ flatV x = true ∧ xs.all flatV = true ∧ b = inV x xs := by
  unfold inF at e
  split at e
  · next ys hy =>
    split at e
    · next hf =>
      cases e
      rw [Bool.and_eq_true] at hf
      obtain ⟨a, vs, h1, h2, h3⟩ := seqOf_rel r ry hy
      exact ⟨a, vs, h1, h2, flatD_rel rx hf.1, flatDs_rel h3 hf.2, (eqFs_rel rx hf.1 h3 hf.2).symm⟩
    · cases e
  · cases e
theorem inF_ok (h : rD2 K mg T gInF x y H Q) : rIn K false x y H Q := by
  obtain ⟨w, μ, dx, dy, d, r, rx, ry, e, q⟩ := h
  obtain ⟨b, hb, rfl⟩ := Option.map_eq_some_iff.mp e
  obtain ⟨p, xs, h1, h2, h3, h4, rfl⟩ := inF_r r rx ry hb
  exact ⟨p, xs, h1, h2, h3, h4, q.same r (.bl _)⟩
theorem ninF_ok (h : rD2 K mg T gNinF x y H Q) : rIn K true x y H Q := by
  obtain ⟨w, μ, dx, dy, d, r, rx, ry, e, q⟩ := h
  obtain ⟨b, hb, rfl⟩ := Option.map_eq_some_iff.mp e
  obtain ⟨p, xs, h1, h2, h3, h4, rfl⟩ := inF_r r rx ry hb
  exact ⟨p, xs, h1, h2, h3, h4, q.same r (.bl _)⟩
theorem inDp_r {w : Wd} {μ : Mem} {dx dy : D} {b : Bool} (r : RelM K mg T w μ H) (rx : RelD K mg w dx x) (ry : RelD K mg w dy y) (e : inDp dx dy μ = some b) : ∃ d ds, Dp K H x d ∧ Dp K H y (.list ds) ∧ SeqAt.shaped d = true ∧ SeqAt.shaped (.list ds) = true ∧ b = ds.any fun z => PyData.eqv z d := by
  unfold inDp at e
  split at e
  · next p qs hp hq =>
    split at e
    · next hs =>
      cases e
      rw [Bool.and_eq_true] at hs
      exact ⟨p, qs, pyOf_dp r rx hp, pyOf_dp r ry hq, hs.1, hs.2, rfl⟩
    · cases e
  · cases e
theorem inDp_ok (h : rD2 K mg T gInDp x y H Q) : rInD K x y H Q := by
  obtain ⟨w, μ, dx, dy, d, r, rx, ry, e, q⟩ := h
  obtain ⟨b, hb, rfl⟩ := Option.map_eq_some_iff.mp e
  obtain ⟨p, xs, h1, h2, h3, h4, rfl⟩ := inDp_r r rx ry hb
  exact ⟨p, xs, h1, h2, h3, h4, q.same r (.bl _)⟩
theorem ninDp_ok (h : rD2 K mg T gNinDp x y H Q) : rNotInD K x y H Q := by
  obtain ⟨w, μ, dx, dy, d, r, rx, ry, e, q⟩ := h
  obtain ⟨b, hb, rfl⟩ := Option.map_eq_some_iff.mp e
  obtain ⟨p, xs, h1, h2, h3, h4, rfl⟩ := inDp_r r rx ry hb
  exact ⟨p, xs, h1, h2, h3, h4, q.same r (.bl _)⟩
theorem rD2_or {g g' : D → D → Mem → Option D} (h : rD2 K mg T (gOr2 g g') x y H Q) : rD2 K mg T g x y H Q ∨ rD2 K mg T g' x y H Q := by
  obtain ⟨w, μ, dx, dy, d, r, rx, ry, e, q⟩ := h
  unfold gOr2 at e
  split at e
  · next z hz => cases e; exact .inl ⟨w, μ, dx, dy, _, r, rx, ry, hz, q⟩
  · exact .inr ⟨w, μ, dx, dy, _, r, rx, ry, e, q⟩
end
def gIn : D → D → Mem → Option D := gOr2 gInF gInDp
def gNin : D → D → Mem → Option D := gOr2 gNinF gNinDp
section
variable {X : Cx} {S : SI} {W : WX} {a b : Expr} {ma mb : EM} {pos : Pos}
theorem pe_in' (hu : X.A.units + 65 < cLine) (hm : behindInMarks .In b = false) (ha : PE X a (TEm X S W ma)) (hb : PE X b (TEm X S W mb)) : PE X (.Compare a [.In] [b] pos) (TEm X S W <| e2 gIn ma mb) := pe_2 (fun t u ha hb => pe_cmpR (op_in_seq.or (op_inD hu)) ha hb hm) (fun _ _ _ _ h => (rD2_or h).imp inF_ok inDp_ok) ha hb
theorem pt_in' (hu : X.A.units + 65 < cLine) (hm : behindInMarks .In b = false) (ha : PE X a (TEm X S W ma)) (hb : PE X b (TEm X S W mb)) : PT X (.Compare a [.In] [b] pos) (TTm X S W <| tBl (e2 gIn ma mb)) := pt_cmp2 (op_in_seq.or (op_inD hu)) hm (fun _ _ _ _ h => (rD2_or h).imp inF_ok inDp_ok) ha hb
theorem pe_nin' (hu : X.A.units + 65 < cLine) (hm : behindInMarks .NotIn b = false) (ha : PE X a (TEm X S W ma)) (hb : PE X b (TEm X S W mb)) : PE X (.Compare a [.NotIn] [b] pos) (TEm X S W <| e2 gNin ma mb) := pe_2 (fun t u ha hb => pe_cmpR (op_notIn_seq.or (op_notInD hu)) ha hb hm) (fun _ _ _ _ h => (rD2_or h).imp ninF_ok ninDp_ok) ha hb
theorem pt_nin' (hu : X.A.units + 65 < cLine) (hm : behindInMarks .NotIn b = false) (ha : PE X a (TEm X S W ma)) (hb : PE X b (TEm X S W mb)) : PT X (.Compare a [.NotIn] [b] pos) (TTm X S W <| tBl (e2 gNin ma mb)) := pt_cmp2 (op_notIn_seq.or (op_notInD hu)) hm (fun _ _ _ _ h => (rD2_or h).imp ninF_ok ninDp_ok) ha hb
end

/-! ### subscripts, slices -/
def gIx (x y : D) (μ : Mem) : Option D := match y with
  | .int i => match seqOf μ x with
    | some xs => atI xs i
    | none => none
  | _ => none
section
variable {K : PySem.W.Frag} {mg : Str → Option Value} {T : List (Addr × Str)} {x y : V} {H : Hp} {Q : VK}
theorem ix_r (h : rD2 K mg T gIx x y H Q) : rIx K x y H Q := by
  obtain ⟨w, μ, dx, dy, d, r, rx, ry, e, q⟩ := h
  unfold gIx at e
  split at e
  · cases ry
    split at e
    · next xs hx =>
      obtain ⟨a, vs, rfl, h2, h3⟩ := seqOf_rel r rx hx
      obtain ⟨v, hv, rv⟩ := h3.atI e
      rcases h2 with h2 | h2
      · exact .inl ⟨a, vs, _, v, rfl, rfl, h2, hv, q.same r rv⟩
      · exact .inr (.inl ⟨a, vs, _, v, rfl, rfl, h2, hv, q.same r rv⟩)
    · cases e
  · cases e
end
abbrev OM := Sv → Mem → Out (Option Int)
def oNo : OM := fun _ μ => .ok none μ
def oSome (ma : EM) : OM := fun δ μ => (ma δ μ).bind fun x μ1 => match x with
  | .int i => .ok (some i) μ1
  | _ => .stuck
abbrev TOm (X : Cx) (S : SI) (W : WX) (m : OM) : TO := tM X.K X.mg S W (fun _ (a b : Option Int) => a = b) m
def cutD (ds : List D) (lo hi : Option Int) : List D := (ds.drop (HT.sIx ds.length 0 lo)).take (HT.sIx ds.length ds.length hi - HT.sIx ds.length 0 lo)
def gSl (x : D) (lo hi : Option Int) (μ : Mem) : Option D := match x with
  | .tup xs => some (.tup (cutD xs lo hi))
  | x => match lstOf μ x with
    | some xs => some (.lst (cutD xs lo hi))
    | none => none
def eSl (mx : EM) (ml mh : OM) : EM := fun δ μ => (mx δ μ).bind fun x μ1 => (ml δ μ1).bind fun lo μ2 => (mh δ μ2).bind fun hi μ3 => oOf (gSl x lo hi μ3) μ3
section
variable {X : Cx} {S : SI} {W : WX} {a b e : Expr} {ma mb : EM} {ml mh : OM} {pos p2 : Pos} {lo hi : Option Expr}
theorem POi {e : Option Expr} {t t' : TO} (h : PO X e t') (i : ∀ σ H Q, t σ H Q → t' σ H Q) : PO X e t := ⟨fun pins s σ H Q I q => h.run pins s σ H Q I (i _ _ _ q)⟩
theorem po_none' : PO X none (TOm X S W oNo) := POi po_none fun σ H Q ⟨w, δ, μ, h⟩ => h.2.2 w none H (Wd.Le.refl _) h.2.1 rfl
theorem po_some' (ha : PE X a (TEm X S W ma)) : PO X (some a) (TOm X S W <| oSome ma) := POi (po_some ha) fun σ H Q ⟨w, δ, μ, h⟩ => ⟨w, δ, μ, (At.bind h).mono fun x H1 ⟨w1, μ1, d, le, rd, h1⟩ => by
  have h3 := h1.2.2
  split at h3
  · cases rd
    exact ⟨_, rfl, h3 w1 _ H1 (Wd.Le.refl _) h1.2.1 rfl⟩
  · exact h3.elim⟩
theorem pe_ix' (hs : PlainIx b) (ha : PE X a (TEm X S W ma)) (hb : PE X b (TEm X S W mb)) : PE X (.Subscript a b pos) (TEm X S W <| e2 gIx ma mb) := pe_2 (fun t u ha hb => pe_ix ix_seq ha hb hs) (fun _ _ _ _ => ix_r) ha hb
theorem cut_all {xs : List V} {lo hi : Option Int} (h : HT.sIx xs.length 0 lo = 0 ∧ HT.sIx xs.length xs.length hi = xs.length) : L2.cutV xs lo hi = xs := by
  unfold L2.cutV
  rw [h.1, h.2]
  simp
theorem cutD_all {xs : List D} {lo hi : Option Int} (h : HT.sIx xs.length 0 lo = 0 ∧ HT.sIx xs.length xs.length hi = xs.length) : cutD xs lo hi = xs := by
  unfold cutD
  rw [h.1, h.2]
  simp
theorem pe_slice' (he : PE X e (TEm X S W ma)) (hl : PO X lo (TOm X S W ml)) (hu : PO X hi (TOm X S W mh)) : PE X (.Subscript e (.Slice lo hi none p2) pos) (TEm X S W <| eSl ma ml mh) :=
  PEi (pe_slice (sl_list.or sl_tupA) he hl hu) fun σ H Q ⟨w, δ, μ, h⟩ => ⟨w, δ, μ, (At.bind h).mono fun x H1 ⟨w1, μ1, d, le, rd, h1⟩ => ⟨w1, δ, μ1, (At.bind h1).mono fun l H2 ⟨w2, μ2, l', le2, re, h2⟩ =>
    ⟨w2, δ, μ2, (At.bind h2).mono fun u H3 ⟨w3, μ3, u', le3, ru, h3⟩ => by
      cases re; cases ru
      obtain ⟨z, e, q⟩ := h3.opt
      have rx := (rd.mono le2).mono le3
      have r := h3.2.1
      unfold gSl at e
      split at e
      · cases e
        obtain ⟨a, vs, rfl, h4, h5⟩ := tupOf_rel r rx rfl
        refine .inr ⟨a, vs, rfl, h4, fun hh => ?_, fun _ => q.tup r (h5.cutV _ _)⟩
        rw [← h5.length] at hh
        rw [cutD_all hh] at q
        exact q.same r rx
      · split at e
        · next ys hy =>
          cases e
          obtain ⟨a, vs, rfl, h4, h5⟩ := lstOf_rel r rx hy
          exact .inl ⟨a, vs, rfl, h4, q.lst r (h5.cutV _ _)⟩
        · cases e⟩⟩⟩
/-- a list backwards: xs[::0 - 1] -/
def gRevL (x : D) (μ : Mem) : Option D := match lstOf μ x with
  | some xs => some (.lst xs.reverse)
  | none => none
theorem pe_revL1 {te : TE} {p3 : Pos} {st : Expr} (hst : PO X (some st) (fun _ H Q => Q (some (-1)) H)) (he : PE X e te) (hsu : ∀ a b, subscripted (.Slice none none (some st) p3) false (.ref a) (.ref b) = operate [.ref a, .ref b] (getItem (.ref a) (.ref b))) :
    PE X (.Subscript e (.Slice none none (some st) p3) pos) (tRevL X.K te) := by
  refine ⟨fun pins s σ H Q I h => ?_⟩
  refine Subscript_ (thn (he.run pins s σ H _ I h) fun v s1 ⟨x, H1, I1, r1, q1⟩ => ?_)
  obtain ⟨a, xs, ex, hx, q⟩ := q1
  subst ex
  cases r1
  refine wpAny_Slice (thn (po_none.run pins s1 σ H1 (fun o H2 => o = none ∧ H2 = H1) I1 ⟨rfl, rfl⟩) fun vl s2 ⟨l, H2, I2, pl, el, e2⟩ => ?_)
  subst el e2
  refine thn (po_none.run pins s2 σ H2 (fun o H3 => o = none ∧ H3 = H2) I2 ⟨rfl, rfl⟩) fun vu s3 ⟨u, H3, I3, pu, eu, e3⟩ => ?_
  subst eu e3
  refine thn (hst.run pins s3 σ H3 (fun o H4 => o = some (-1) ∧ H4 = H3) I3 ⟨rfl, rfl⟩) fun vs s4 ⟨o, H4, I4, ps, eo, e4⟩ => ?_
  subst eo e4
  have I5 : Inv X pins σ H4 { s4 with heap := s4.heap.push { cls := .type "slice", data := .fields #[vl, vu, vs] } } := I4.kept (t' := s4.toks) fun b ob q => Heap.get?_push_of_some _ q
  obtain ⟨its, r, ht, hz⟩ := I5.list hx
  have hlen := r.length
  refine tail_any (ops := [.ref a, .ref s4.heap.objs.size]) ht.isList.typeIs (PySem.slot_list_getitem.lookup) ?_ (hsu _ _)
  refine wpAny_getItem_list_slice ht.isList (Heap.IsSliceOf.new _ vl vu vs) pl pu ps (by decide) ?_ (by rw [List.size_toArray]; omega)
  rw [PySem.W.krv_pick]
  refine ⟨.ref _, _, I5.laid (t' := s4.toks) (o := .lst xs.reverse) (fun b ob q => Heap.get?_push_of_some _ q) (Nat.le_refl _) ?_, rfl, q _ (I5.hok.fresh (Nat.le_refl _))⟩
  exact ⟨by rw [List.length_reverse]; exact hz, _, 0, r.reverse, Heap.get?_push_size _ rfl⟩
theorem po_neg1 {k k' : Nat} {p1 p2 p3 : Pos} : PO X (some (.BinOp (.Constant (.int 0) k p1) .Sub (.Constant (.int 1) k' p2) p3)) (fun _ H Q => Q (some (-1)) H) :=
  POi (po_some (pe_op op_sub pe_int pe_int)) fun σ H Q h => ⟨0, 1, rfl, rfl, -1, rfl, h⟩
theorem pe_revL' {k k' : Nat} {p1 p2 p3 p4 : Pos} (he : PE X e (TEm X S W ma)) : PE X (.Subscript e (.Slice none none (some (.BinOp (.Constant (.int 0) k p1) .Sub (.Constant (.int 1) k' p2) p3)) p4) pos) (TEm X S W <| e1 gRevL ma) :=
  pe_1 (r := fun x H1 Q => ∃ a xs, x = .ref a ∧ SqL X.K H1 a xs ∧ ∀ p, H1 p = none → Q (.ref p) (upd H1 p (.lst xs.reverse))) (fun t ht => pe_revL1 po_neg1 ht (fun _ _ => by with_unfolding_all rfl)) (fun x H Q ⟨w, μ, dx, d, r, rx, e, q⟩ => by
    unfold gRevL at e
    split at e
    · next xs hx =>
      cases e
      obtain ⟨a, vs, h1, h2, h3⟩ := lstOf_rel r rx hx
      exact ⟨a, vs, h1, h2, q.lst r h3.reverse⟩
    · cases e) he
end
end Kw

set_option Elab.async false
set_option linter.all false
set_option maxRecDepth 100000
namespace Kw
open PySem PySem.Spec PyProof.Rows L2

/-! ### built-in functions -/
def gLen : List D → Mem → Option D
  | [.str y], _ => if y.length ≤ sizeLine then some (.int y.length) else none
  | [.loc l], μ => match μ[l]? with
    | some (.lst xs) => some (.int xs.length)
    | some (.dct kvs) => some (.int kvs.length)
    | _ => none
  | [x], μ => match seqOf μ x with
    | some xs => some (.int xs.length)
    | none => none
  | _, _ => none
def gAbs : List D → Mem → Option D
  | [.int i], _ => some (.int (if i < 0 then -i else i))
  | _, _ => none
def gInt : List D → Mem → Option D
  | [.int i], _ => some (.int i)
  | [.bl k], _ => some (.int (if k then 1 else 0))
  | _, _ => none
def gTuple : List D → Mem → Option D
  | [.tup xs], _ => some (.tup xs)
  | [x], μ => match lstOf μ x with
    | some xs => some (.tup xs)
    | none => none
  | _, _ => none
def gList : List D → Mem → Option D
  | [x], μ => match seqOf μ x with
    | some xs => some (.lst xs)
    | none => none
  | _, _ => none
def boolsOf : List D → Option (List Bool)
  | [] => some []
  | .bl b :: ds => match boolsOf ds with
    | some bs => some (b :: bs)
    | none => none
  | _ => none
def intsOf : List D → Option (List Int)
  | [] => some []
  | .int b :: ds => match intsOf ds with
    | some bs => some (b :: bs)
    | none => none
  | _ => none
def gAll : List D → Mem → Option D
  | [x], μ => match lstOf μ x with
    | some xs => match boolsOf xs with
      | some bs => some (.bl (bs.all id))
      | none => none
    | none => none
  | _, _ => none
def gAny : List D → Mem → Option D
  | [x], μ => match lstOf μ x with
    | some xs => match boolsOf xs with
      | some bs => some (.bl (bs.any id))
      | none => none
    | none => none
  | _, _ => none
def gSum : List D → Mem → Option D
  | [x], μ => match lstOf μ x with
    | some xs => match intsOf xs with
      | some bs => some (.int bs.sum)
      | none => none
    | none => none
  | _, _ => none
def gMax2 : List D → Mem → Option D
  | [.int i, .int j], _ => some (.int (if j > i then j else i))
  | _, _ => none
def gMin2 : List D → Mem → Option D
  | [.int i, .int j], _ => some (.int (if j < i then j else i))
  | _, _ => none
/-- the names of the types that isinstance is asked about -/
def tyS (μ : Mem) : D → Option String
  | .non => some "NoneType"
  | .bl _ => some "bool"
  | .int _ => some "int"
  | .str _ => some "str"
  | .tup _ => some "tuple"
  | .lst _ => some "list"
  | .scr _ => some "list"
  | .loc l => match μ[l]? with
    | some (.lst _) => some "list"
    | some (.dct _) => some "dict"
    | _ => none
  | _ => none
def tyL : List String := ["int", "bool", "str", "NoneType", "list", "tuple", "dict"]
def tyB (a b : String) : Bool := a == b || (a == "bool" && b == "int")
theorem kitB_tab : ∀ a ∈ tyL, ∀ b ∈ tyL, kitB a b = some (tyB a b) := by decide +kernel
def gIsi (ns : List String) (x : D) (μ : Mem) : Option D := match tyS μ x with
  | some a => some (.bl (ns.any (tyB a)))
  | none => none
def gRepr : List D → Mem → Option D
  | [x], μ => match pyOf μ x with
    | some p => if p.showable = true ∧ p.hasDict = false ∧ p.depth ≤ 100 ∧ p.shown.length ≤ sizeLine then some (.str p.shown) else none
    | none => none
  | _, _ => none
section
variable {K : PySem.W.Frag} {mg : Str → Option Value} {T : List (Addr × Str)} {xs : List V} {x y : V} {H : Hp} {Q : VK}
theorem RelDs.one1 {w : Wd} {d : D} (r : RelDs K mg w [d] xs) : ∃ x, xs = [x] ∧ RelD K mg w d x := by
  cases r with
  | cons r t => cases t; exact ⟨_, rfl, r⟩
theorem RelDs.two2 {w : Wd} {d e : D} (r : RelDs K mg w [d, e] xs) : ∃ x y, xs = [x, y] ∧ RelD K mg w d x ∧ RelD K mg w e y := by
  cases r with
  | cons r t =>
    obtain ⟨y, rfl, h⟩ := t.one1
    exact ⟨_, _, rfl, r, h⟩
theorem len_r (h : rDs K mg T gLen xs H Q) : (∃ p ys, xs = [.ref p] ∧ (SqL K H p ys ∨ SqT K H p ys) ∧ Q (.int ys.length) H) ∨ (∃ z, xs = [.str z] ∧ z.length ≤ sizeLine ∧ Q (.int z.length) H) ∨ ∃ a kvs, xs = [V.ref a] ∧ H a = some (.dK kvs) ∧ Q (.int kvs.length) H := by
  obtain ⟨w, μ, ds, d, r, rs, e, q⟩ := h
  unfold gLen at e
  split at e
  · obtain ⟨x, rfl, rx⟩ := rs.one1
    cases rx
    split at e
    · next hl => cases e; exact .inr (.inl ⟨_, rfl, hl, q.same r (.int _)⟩)
    · cases e
  · obtain ⟨x, rfl, rx⟩ := rs.one1
    cases rx
    split at e
    · next ys hy =>
      cases e
      obtain ⟨vs, h1, h2⟩ := r.lst hy
      exact .inl ⟨_, vs, rfl, .inl (.inl (.inl h1)), by rw [← h2.length]; exact q.same r (.int _)⟩
    · next kvs hy =>
      cases e
      have z := (r.ob _ _ hy).1
      generalize eo : H (w.ρ _) = o at z
      cases z with
      | @dct _ gs hk hv =>
        have : kvs.length = gs.length := by have := congrArg List.length hk; simpa using this
        exact .inr (.inr ⟨_, gs, rfl, eo, by rw [← this]; exact q.same r (.int _)⟩)
    · cases e
  · obtain ⟨x, rfl, rx⟩ := rs.one1
    split at e
    · next ys hy =>
      cases e
      obtain ⟨a, vs, rfl, h2, h3⟩ := seqOf_rel r rx hy
      exact .inl ⟨a, vs, rfl, h2, by rw [← h3.length]; exact q.same r (.int _)⟩
    · cases e
  · cases e
theorem abs_r (h : rDs K mg T gAbs xs H Q) : ∃ i, xs = [.int i] ∧ Q (.int (if i < 0 then -i else i)) H := by
  obtain ⟨w, μ, ds, d, r, rs, e, q⟩ := h
  unfold gAbs at e
  split at e
  · obtain ⟨x, rfl, rx⟩ := rs.one1
    cases rx; cases e
    exact ⟨_, rfl, q.same r (.int _)⟩
  · cases e
theorem int_r (h : rDs K mg T gInt xs H Q) : (∃ i, xs = [.int i] ∧ Q (.int i) H) ∨ ∃ k, xs = [.bl k] ∧ Q (.int (if k then 1 else 0)) H := by
  obtain ⟨w, μ, ds, d, r, rs, e, q⟩ := h
  unfold gInt at e
  split at e
  · obtain ⟨x, rfl, rx⟩ := rs.one1
    cases rx; cases e
    exact .inl ⟨_, rfl, q.same r (.int _)⟩
  · obtain ⟨x, rfl, rx⟩ := rs.one1
    cases rx; cases e
    exact .inr ⟨_, rfl, q.same r (.int _)⟩
  · cases e
theorem tuple_r (h : rDs K mg T gTuple xs H Q) : ∃ p ys, xs = [.ref p] ∧ ((SqL K H p ys ∧ ∀ l, H l = none → Q (.ref l) (upd H l (.tup ys))) ∨ (SqT K H p ys ∧ Q (.ref p) H)) := by
  obtain ⟨w, μ, ds, d, r, rs, e, q⟩ := h
  unfold gTuple at e
  split at e
  · obtain ⟨x, rfl, rx⟩ := rs.one1
    cases e
    obtain ⟨a, vs, rfl, h2, h3⟩ := tupOf_rel r rx rfl
    exact ⟨a, vs, rfl, .inr ⟨h2, q.same r rx⟩⟩
  · obtain ⟨x, rfl, rx⟩ := rs.one1
    split at e
    · next ys hy =>
      cases e
      obtain ⟨a, vs, rfl, h2, h3⟩ := lstOf_rel r rx hy
      exact ⟨a, vs, rfl, .inl ⟨h2, q.tup r h3⟩⟩
    · cases e
  · cases e
theorem list_r (h : rDs K mg T gList xs H Q) : ∃ p ys, xs = [.ref p] ∧ (SqL K H p ys ∨ SqT K H p ys) ∧ ∀ l, H l = none → Q (.ref l) (upd H l (.lst ys)) := by
  obtain ⟨w, μ, ds, d, r, rs, e, q⟩ := h
  unfold gList at e
  split at e
  · obtain ⟨x, rfl, rx⟩ := rs.one1
    split at e
    · next ys hy =>
      cases e
      obtain ⟨a, vs, rfl, h2, h3⟩ := seqOf_rel r rx hy
      exact ⟨a, vs, rfl, h2, q.lst r h3⟩
    · cases e
  · cases e
theorem bools_r {w : Wd} : ∀ {ds : List D} {vs : List V} {bs : List Bool}, RelDs K mg w ds vs → boolsOf ds = some bs → vs = bs.map V.bl
  | [], _, _, .nil, h => by cases h; rfl
  | d :: ds, _, bs, .cons r t, h => by
    unfold boolsOf at h
    split at h
    · next e => cases e
    · next b ds' e =>
      cases e
      cases r
      split at h
      · next cs hc => cases h; rw [bools_r t hc]; rfl
      · cases h
    · cases h
theorem ints_r {w : Wd} : ∀ {ds : List D} {vs : List V} {bs : List Int}, RelDs K mg w ds vs → intsOf ds = some bs → vs = bs.map V.int
  | [], _, _, .nil, h => by cases h; rfl
  | d :: ds, _, bs, .cons r t, h => by
    unfold intsOf at h
    split at h
    · next e => cases e
    · next b ds' e =>
      cases e
      cases r
      split at h
      · next cs hc => cases h; rw [ints_r t hc]; rfl
      · cases h
    · cases h
theorem all_r (h : rDs K mg T gAll xs H Q) : rAll K xs H Q := by
  obtain ⟨w, μ, ds, d, r, rs, e, q⟩ := h
  unfold gAll at e
  split at e
  · obtain ⟨x, rfl, rx⟩ := rs.one1
    split at e
    · next ys hy =>
      obtain ⟨a, vs, rfl, h2, h3⟩ := lstOf_rel r rx hy
      split at e
      · next bs hb => cases e; exact ⟨a, bs, rfl, by rw [← bools_r h3 hb]; exact h2, q.same r (.bl _)⟩
      · cases e
    · cases e
  · cases e
theorem any_r (h : rDs K mg T gAny xs H Q) : rAny K xs H Q := by
  obtain ⟨w, μ, ds, d, r, rs, e, q⟩ := h
  unfold gAny at e
  split at e
  · obtain ⟨x, rfl, rx⟩ := rs.one1
    split at e
    · next ys hy =>
      obtain ⟨a, vs, rfl, h2, h3⟩ := lstOf_rel r rx hy
      split at e
      · next bs hb => cases e; exact ⟨a, bs, rfl, by rw [← bools_r h3 hb]; exact h2, q.same r (.bl _)⟩
      · cases e
    · cases e
  · cases e
theorem sum_r (h : rDs K mg T gSum xs H Q) : rSum K xs H Q := by
  obtain ⟨w, μ, ds, d, r, rs, e, q⟩ := h
  unfold gSum at e
  split at e
  · obtain ⟨x, rfl, rx⟩ := rs.one1
    split at e
    · next ys hy =>
      obtain ⟨a, vs, rfl, h2, h3⟩ := lstOf_rel r rx hy
      split at e
      · next bs hb => cases e; exact ⟨a, bs, rfl, by rw [← ints_r h3 hb]; exact h2, q.same r (.int _)⟩
      · cases e
    · cases e
  · cases e
theorem max2_r (h : rDs K mg T gMax2 xs H Q) : ∃ i j, xs = [.int i, .int j] ∧ Q (.int (if j > i then j else i)) H := by
  obtain ⟨w, μ, ds, d, r, rs, e, q⟩ := h
  unfold gMax2 at e
  split at e
  · obtain ⟨x, y, rfl, rx, ry⟩ := rs.two2
    cases rx; cases ry; cases e
    exact ⟨_, _, rfl, q.same r (.int _)⟩
  · cases e
theorem min2_r (h : rDs K mg T gMin2 xs H Q) : ∃ i j, xs = [.int i, .int j] ∧ Q (.int (if j < i then j else i)) H := by
  obtain ⟨w, μ, ds, d, r, rs, e, q⟩ := h
  unfold gMin2 at e
  split at e
  · obtain ⟨x, y, rfl, rx, ry⟩ := rs.two2
    cases rx; cases ry; cases e
    exact ⟨_, _, rfl, q.same r (.int _)⟩
  · cases e
theorem sqT_ty {a : Addr} {vs : List V} (h : SqT K H a vs) : TyX K H (.ref a) (.type "tuple") := by
  rcases h with (h | ⟨o, h⟩) | ⟨o, its, n, h, hc, _⟩
  · exact .base (.tup h)
  · exact .fTuple h
  · exact .kTuple h hc
theorem sqL_ty {a : Addr} {vs : List V} (h : SqL K H a vs) : TyX K H (.ref a) (.type "list") := by
  rcases h with (h | ⟨o, h⟩) | ⟨o, its, n, h, hc, _⟩
  · exact .base (.lst h)
  · exact .base (.frz h)
  · exact .kList h hc
theorem tyS_rel {w : Wd} {μ : Mem} {d : D} {n : String} (r : RelM K mg T w μ H) (rd : RelD K mg w d x) (h : tyS μ d = some n) : TyX K H x (.type n) ∧ n ∈ tyL := by
  cases rd with
  | non => cases h; exact ⟨.base .non, by decide⟩
  | bl b => cases h; exact ⟨.base (.bl b), by decide⟩
  | int i => cases h; exact ⟨.base (.int i), by decide⟩
  | str y => cases h; exact ⟨.base (.str y), by decide⟩
  | tup e rs => cases h; exact ⟨sqT_ty (sqT_mono r.φ e), by decide⟩
  | lst e rs => cases h; exact ⟨.base (.lst (r.φ _ _ e)), by decide⟩
  | scr e rs => cases h; exact ⟨sqL_ty (scr_H r e), by decide⟩
  | @loc l hl =>
    simp only [tyS] at h
    split at h
    · next ys hy =>
      cases h
      obtain ⟨vs, h1, h2⟩ := r.lst hy
      exact ⟨.base (.lst h1), by decide⟩
    · next kvs hy =>
      cases h
      have z := (r.ob _ _ hy).1
      generalize eo : H (w.ρ _) = o at z
      cases z with
      | @dct _ gs hk hv => exact ⟨.base (.dK eo), by decide⟩
    · cases h
  | _ => cases h
theorem kitAny_of {a : String} (ha : a ∈ tyL) : ∀ (ns : List String), (∀ n ∈ ns, n ∈ tyL) → PySem.W.kitAny K (.type a) (ns.map Value.type) = some (ns.any (tyB a))
  | [], _ => rfl
  | n :: ns, h => by
    have h1 := kit_ty (K := K) (kitB_tab a ha n (h n List.mem_cons_self))
    have h2 := kitAny_of ha ns (fun m hm => h m (List.mem_cons_of_mem _ hm))
    refine kitAny_cons h1 (fun hb => ?_) fun hb => ?_
    · rw [h2, List.any_cons, hb, Bool.false_or]
    · rw [List.any_cons, hb, Bool.true_or]
end
def eIsi (ns : List String) (ma : EM) : EM := e1 (gIsi ns) ma
section
variable {X : Cx} {S : SI} {W : WX} {a b e o : Expr} {es : List Expr} {ma mb mo : EM} {mr : AM} {pos p p' apos : Pos} {x : Str} {k : Nat}
theorem Paired.map_ty : ∀ ns : List String, Paired ClsV (ns.map V.ty) (ns.map Value.type)
  | [] => .nil
  | n :: ns => .cons (.ty n) (Paired.map_ty ns)
/-- isinstance(a, T) -/
theorem pe_isi1 {n : String} (hn : n ∈ tyL) (hg : Gl X "isinstance") (hm : X.mg "isinstance" = none) (hT : PE X b (tC (.ty n))) (ha : PE X a (TEm X S W ma))
    (he : starEach (a :: [b]) X.env = (false, eval a X.env) :: starEach [b] X.env := by rfl) (hpl : (backTo pos (starEach [b] X.env)).any (·.1) = false := by rfl) (he2 : starEach (b :: []) X.env = (false, eval b X.env) :: starEach [] X.env := by rfl) :
    PE X (.Call (.Name "isinstance" p) [a, b] [] pos) (TEm X S W <| e1 (gIsi [n]) ma) :=
  PEi (pe_callB call_isi hg hm (by decide +kernel) (pa_cons ha (pa_cons hT pa_nil he2) he) (by decide) (by decide) he hpl) fun σ H Q ⟨w, δ, μ, h⟩ => ⟨w, δ, μ, (At.bind h).mono fun x H1 ⟨w1, μ1, d, le, rd, h1⟩ => by
    obtain ⟨z, e, q⟩ := h1.opt
    unfold gIsi at e
    split at e
    · next ty hty =>
      cases e
      obtain ⟨t1, t2⟩ := tyS_rel h1.2.1 rd hty
      refine ⟨x, .ty n, _, .type n, tyB ty n, rfl, .ty n, t1, kit_ty (kitB_tab ty t2 n hn), ?_⟩
      have := q.same h1.2.1 (.bl _)
      simpa using this
    · cases e⟩
/-- isinstance(a, (T, U)) -/
theorem pe_isiT {ns : List String} (hn : ∀ n ∈ ns, n ∈ tyL) (hl : ns.length ≤ sizeLine) (hg : Gl X "isinstance") (hm : X.mg "isinstance" = none) (hT : PA X es (fun _ H Q => Q (ns.map V.ty) H)) (ha : PE X a (TEm X S W ma))
    (he : starEach (a :: [.Tuple es k p']) X.env = (false, eval a X.env) :: starEach [.Tuple es k p'] X.env := by rfl) (hpl : (backTo pos (starEach [.Tuple es k p'] X.env)).any (·.1) = false := by rfl) (he2 : starEach (.Tuple es k p' :: []) X.env = (false, eval (.Tuple es k p') X.env) :: starEach [] X.env := by rfl) :
    PE X (.Call (.Name "isinstance" p) [a, .Tuple es k p'] [] pos) (TEm X S W <| e1 (gIsi ns) ma) :=
  PEi (pe_callB call_isiT hg hm (by decide +kernel) (pa_cons ha (pa_cons (pe_tup hT) pa_nil he2) he) (by decide) (by decide) he hpl) fun σ H Q ⟨w, δ, μ, h⟩ => ⟨w, δ, μ, (At.bind h).mono fun x H1 ⟨w1, μ1, d, le, rd, h1⟩ => by
    obtain ⟨z, e, q⟩ := h1.opt
    unfold gIsi at e
    split at e
    · next ty hty =>
      cases e
      have r := h1.2.1
      refine ⟨by rw [List.length_map]; exact hl, fun p hp => ?_⟩
      have r' := r.lay hp (o := .tup (ns.map V.ty)) (fun _ => nofun)
      have le' := r.lay_le hp (.tup (ns.map V.ty))
      obtain ⟨t1, t2⟩ := tyS_rel r' (rd.mono le') hty
      exact ⟨x, p, ns.map V.ty, _, ns.map Value.type, _, rfl, upd_same, Paired.map_ty ns, t1, kitAny_of t2 ns hn, q _ _ _ le' r' (.bl _)⟩
    · cases e⟩
theorem pe_len' (hg : Gl X "len") (hm : X.mg "len" = none) (ha : PA X (e :: es) (TAm X S W mr)) (he : starEach (e :: es) X.env = (false, eval e X.env) :: starEach es X.env := by rfl) (hpl : (backTo pos (starEach es X.env)).any (·.1) = false := by rfl) :
    PE X (.Call (.Name "len" p) (e :: es) [] pos) (TEm X S W <| eAs gLen mr) := pe_As (fun t h => pe_callB (call_len_seq.or (call_len_str.or call_lenD)) hg hm PySem.boot_len h (by decide) (by decide) he hpl) (fun _ _ _ => len_r) ha
theorem pe_abs' (hg : Gl X "abs") (hm : X.mg "abs" = none) (ha : PA X (e :: es) (TAm X S W mr)) (he : starEach (e :: es) X.env = (false, eval e X.env) :: starEach es X.env := by rfl) (hpl : (backTo pos (starEach es X.env)).any (·.1) = false := by rfl) :
    PE X (.Call (.Name "abs" p) (e :: es) [] pos) (TEm X S W <| eAs gAbs mr) := pe_As (fun t h => pe_callB call_abs hg hm (by decide +kernel) h (by decide) (by decide) he hpl) (fun _ _ _ => abs_r) ha
theorem pe_int' (hg : Gl X "int") (hm : X.mg "int" = none) (ha : PA X (e :: es) (TAm X S W mr)) (he : starEach (e :: es) X.env = (false, eval e X.env) :: starEach es X.env := by rfl) (hpl : (backTo pos (starEach es X.env)).any (·.1) = false := by rfl) :
    PE X (.Call (.Name "int" p) (e :: es) [] pos) (TEm X S W <| eAs gInt mr) := pe_As (fun t h => pe_callTy call_int1 hg hm (by decide +kernel) h (by decide) (by decide) he hpl) (fun _ _ _ => int_r) ha
theorem pe_tuple' (hg : Gl X "tuple") (hm : X.mg "tuple" = none) (ha : PA X (e :: es) (TAm X S W mr)) (he : starEach (e :: es) X.env = (false, eval e X.env) :: starEach es X.env := by rfl) (hpl : (backTo pos (starEach es X.env)).any (·.1) = false := by rfl) :
    PE X (.Call (.Name "tuple" p) (e :: es) [] pos) (TEm X S W <| eAs gTuple mr) := pe_As (fun t h => pe_callTy call_tuple_of hg hm (by decide +kernel) h (by decide) (by decide) he hpl) (fun _ _ _ => tuple_r) ha
theorem pe_list' (hg : Gl X "list") (hm : X.mg "list" = none) (ha : PA X (e :: es) (TAm X S W mr)) (he : starEach (e :: es) X.env = (false, eval e X.env) :: starEach es X.env := by rfl) (hpl : (backTo pos (starEach es X.env)).any (·.1) = false := by rfl) :
    PE X (.Call (.Name "list" p) (e :: es) [] pos) (TEm X S W <| eAs gList mr) := pe_As (fun t h => pe_callTy call_list_of hg hm (by decide +kernel) h (by decide) (by decide) he hpl) (fun _ _ _ => list_r) ha
theorem pe_all' (hc : X.calm = true) (hg : Gl X "all") (hm : X.mg "all" = none) (ha : PA X (e :: es) (TAm X S W mr)) (he : starEach (e :: es) X.env = (false, eval e X.env) :: starEach es X.env := by rfl) (hpl : (backTo pos (starEach es X.env)).any (·.1) = false := by rfl) :
    PE X (.Call (.Name "all" p) (e :: es) [] pos) (TEm X S W <| eAs gAll mr) := pe_As (fun t h => pe_callB (cr_all hc) hg hm (by decide +kernel) h (by decide) (by decide) he hpl) (fun _ _ _ => all_r) ha
theorem pe_any' (hc : X.calm = true) (hg : Gl X "any") (hm : X.mg "any" = none) (ha : PA X (e :: es) (TAm X S W mr)) (he : starEach (e :: es) X.env = (false, eval e X.env) :: starEach es X.env := by rfl) (hpl : (backTo pos (starEach es X.env)).any (·.1) = false := by rfl) :
    PE X (.Call (.Name "any" p) (e :: es) [] pos) (TEm X S W <| eAs gAny mr) := pe_As (fun t h => pe_callB (cr_any hc) hg hm (by decide +kernel) h (by decide) (by decide) he hpl) (fun _ _ _ => any_r) ha
theorem pe_sum' (hc : X.calm = true) (hg : Gl X "sum") (hm : X.mg "sum" = none) (ha : PA X (e :: es) (TAm X S W mr)) (he : starEach (e :: es) X.env = (false, eval e X.env) :: starEach es X.env := by rfl) (hpl : (backTo pos (starEach es X.env)).any (·.1) = false := by rfl) :
    PE X (.Call (.Name "sum" p) (e :: es) [] pos) (TEm X S W <| eAs gSum mr) := pe_As (fun t h => pe_callB (cr_sum hc) hg hm (by decide +kernel) h (by decide) (by decide) he hpl) (fun _ _ _ => sum_r) ha
theorem pe_max2' (hc : X.calm = true) (hg : Gl X "max") (hm : X.mg "max" = none) (ha : PA X (e :: es) (TAm X S W mr)) (he : starEach (e :: es) X.env = (false, eval e X.env) :: starEach es X.env := by rfl) (hpl : (backTo pos (starEach es X.env)).any (·.1) = false := by rfl) :
    PE X (.Call (.Name "max" p) (e :: es) [] pos) (TEm X S W <| eAs gMax2 mr) := pe_As (fun t h => pe_callB (call_max2 hc) hg hm (by decide +kernel) h (by decide) (by decide) he hpl) (fun _ _ _ => max2_r) ha
theorem pe_min2' (hc : X.calm = true) (hg : Gl X "min") (hm : X.mg "min" = none) (ha : PA X (e :: es) (TAm X S W mr)) (he : starEach (e :: es) X.env = (false, eval e X.env) :: starEach es X.env := by rfl) (hpl : (backTo pos (starEach es X.env)).any (·.1) = false := by rfl) :
    PE X (.Call (.Name "min" p) (e :: es) [] pos) (TEm X S W <| eAs gMin2 mr) := pe_As (fun t h => pe_callB (call_min2 hc) hg hm (by decide +kernel) h (by decide) (by decide) he hpl) (fun _ _ _ => min2_r) ha
theorem Dp.deep {K : PySem.W.Frag} {H : Hp} {d : PyData} {v : V} (h : Dp K H v d) : True := trivial
/-- repr: where no guard stands above -/
theorem call_repr_py (hgd : X.A.guards = some []) (hu : X.A.units + 200 < cLine) : CallR X (.builtin "repr") (fun xs H Q => ∃ x d, xs = [x] ∧ Dp X.K H x d ∧ d.showable = true ∧ d.hasDict = false ∧ d.depth ≤ 100 ∧ d.shown.length ≤ sizeLine ∧ Q (.str d.shown) H) := by
  intro pins s σ H xs us Q I r h
  obtain ⟨x, d, rfl, dp, hs, hd, h1, h2, q⟩ := h
  obtain ⟨u, rfl, rx⟩ := vals1 r
  cases dp with
  | non => cases rx; exact PySem.P.repr_of_none ⟨.str _, H, I.tok _, ⟨_, rfl⟩, q⟩
  | bl b =>
    cases rx
    exact PySem.P.repr_of_bool ⟨.str _, H, I.tok _, ⟨_, rfl⟩, by cases b <;> exact q⟩
  | int i =>
    obtain ⟨t, rfl⟩ := rx
    exact PySem.P.repr_of_int (of_decide_eq_true hs) ⟨.str _, H, I.tok _, ⟨_, rfl⟩, q⟩
  | str y =>
    obtain ⟨t, rfl⟩ := rx
    exact PySem.P.repr_of_str ⟨.str _, H, I.tok _, ⟨_, rfl⟩, q⟩ h2
  | @lst a ys ds e es =>
    cases rx
    obtain ⟨as, rd⟩ := Dp.reads I _ _ _ (.lst e es) (show RelV (.ref a) (.ref a) from rfl)
    exact repr_of_reads' rd hs (PyData.noDict_hsm hd) hgd (by omega) (fun _ _ e => e) (fun h' u tk hk => ⟨.str _, H, I.kept hk, ⟨_, rfl⟩, q⟩) h2
  | @tup a ys ds e es =>
    cases rx
    obtain ⟨as, rd⟩ := Dp.reads I _ _ _ (.tup e es) (show RelV (.ref a) (.ref a) from rfl)
    exact repr_of_reads' rd hs (PyData.noDict_hsm hd) hgd (by omega) (fun _ _ e => e) (fun h' u tk hk => ⟨.str _, H, I.kept hk, ⟨_, rfl⟩, q⟩) h2
theorem pe_repr' (hgd : X.A.guards = some []) (hu : X.A.units + 200 < cLine) (hg : Gl X "repr") (hm : X.mg "repr" = none) (ha : PA X (e :: es) (TAm X S W mr)) (he : starEach (e :: es) X.env = (false, eval e X.env) :: starEach es X.env := by rfl) (hpl : (backTo pos (starEach es X.env)).any (·.1) = false := by rfl) :
    PE X (.Call (.Name "repr" p) (e :: es) [] pos) (TEm X S W <| eAs gRepr mr) := pe_As (fun t h => pe_callB (call_repr_py hgd hu) hg hm (by decide +kernel) h (by decide) (by decide) he hpl) (fun xs H Q ⟨w, μ, ds, d, r, rs, e, q⟩ => by
    unfold gRepr at e
    split at e
    · obtain ⟨x, rfl, rx⟩ := rs.one1
      split at e
      · next p' hp =>
        split at e
        · next hh => cases e; exact ⟨x, p', rfl, pyOf_dp r rx hp, hh.1, hh.2.1, hh.2.2.1, hh.2.2.2, q.same r (.str _)⟩
        · cases e
      · cases e
    · cases e) ha
end

/-! ### methods of lists -/
def eMtL (g : D → List D → Mem → Option (D × Mem)) (mo : EM) (ma : AM) : EM := fun δ μ => (mo δ μ).bind fun x μ1 => if (lstX μ1 x).isSome = true then (ma δ μ1).bind fun xs μ2 => oOfM (g x xs μ2) else .stuck
def gAppend : D → List D → Mem → Option (D × Mem)
  | .loc l, [y], μ => match μ[l]? with
    | some (.lst xs) => if xs.length < sizeLine then some (.non, μ.set l (.lst (xs ++ [y]))) else none
    | _ => none
  | _, _, _ => none
def gExtend : D → List D → Mem → Option (D × Mem)
  | .loc l, [y], μ => match μ[l]?, lstX μ y with
    | some (.lst xs), some ys => if xs.length + ys.length ≤ sizeLine then some (.non, μ.set l (.lst (xs ++ ys))) else none
    | _, _ => none
  | _, _, _ => none
def gPop : D → List D → Mem → Option (D × Mem)
  | .loc l, [], μ => match μ[l]? with
    | some (.lst xs) => match xs[xs.length - 1]? with
      | some y => some (y, μ.set l (.lst xs.dropLast))
      | none => none
    | _ => none
  | .loc l, [.int i], μ => match μ[l]? with
    | some (.lst xs) => if -9223372036854775808 ≤ i ∧ i < 9223372036854775808 then match seqIndex? i xs.length with
      | some k => match xs[k]? with
        | some y => some (y, μ.set l (.lst (xs.eraseIdx k)))
        | none => none
      | none => none
      else none
    | _ => none
  | _, _, _ => none
section
variable {K : PySem.W.Frag} {mg : Str → Option Value} {T : List (Addr × Str)} {xs : List V} {x y : V} {H : Hp} {Q : VK}
theorem Then1.write {w : Wd} {μ : Mem} {l : Nat} {b b' : Ob} {o' : HO} {d : D} {v : V} (q : Then1 K mg T w (μ.set l b') Q d) (r : RelM K mg T w μ H) (hl : μ[l]? = some b) (hb : RelOb K mg w b' (some o')) (rd : RelD K mg w d v) (ng : b ≠ .gone := by nofun) (ng' : b' ≠ .gone := by nofun) : Q v (upd H (w.ρ l) o') :=
  q w v _ (Wd.Le.refl _) (r.write hl ng hb ng') rd
theorem append_r (h : rDm K mg T gAppend x xs H Q) : rAppend x xs H Q := by
  obtain ⟨w, μ, dx, ds, d, μ', r, rx, rs, e, q⟩ := h
  unfold gAppend at e
  split at e
  · obtain ⟨y, rfl, ry⟩ := rs.one1
    cases rx
    split at e
    · next ys hy =>
      split at e
      · next hl =>
        cases e
        obtain ⟨vs, h1, h2⟩ := r.lst hy
        exact ⟨_, vs, y, rfl, rfl, h1, by rw [← h2.length]; exact hl, q.write r hy (.lst (h2.append (.one ry))) .non⟩
      · cases e
    · cases e
  · cases e
theorem extend_r (h : rDm K mg T gExtend x xs H Q) : rExtend x xs H Q := by
  obtain ⟨w, μ, dx, ds, d, μ', r, rx, rs, e, q⟩ := h
  unfold gExtend at e
  split at e
  · obtain ⟨y, rfl, ry⟩ := rs.one1
    cases rx
    split at e
    · next ys zs hy hz =>
      split at e
      · next hl =>
        cases e
        obtain ⟨vs, h1, h2⟩ := r.lst hy
        obtain ⟨b, us, rfl, h3, h4⟩ := lstX_rel r ry hz
        exact ⟨_, b, vs, us, rfl, rfl, h1, h3, by rw [← h2.length, ← h4.length]; exact hl, q.write r hy (.lst (h2.append h4)) .non⟩
      · cases e
    · cases e
  · cases e
theorem RelDs.dropLast {w : Wd} {ds : List D} {vs : List V} (h : RelDs K mg w ds vs) : RelDs K mg w ds.dropLast vs.dropLast := by
  rw [List.dropLast_eq_take, List.dropLast_eq_take, ← h.length]
  exact h.take _
theorem pop_r (h : rDm K mg T gPop x xs H Q) : rPop x xs H Q ∨ rPopAt x xs H Q := by
  obtain ⟨w, μ, dx, ds, d, μ', r, rx, rs, e, q⟩ := h
  unfold gPop at e
  split at e
  · cases rs
    cases rx
    split at e
    · next ys hy =>
      split at e
      · next z hz =>
        cases e
        obtain ⟨vs, h1, h2⟩ := r.lst hy
        obtain ⟨v, hv, rv⟩ := h2.get hz
        exact .inl ⟨_, vs, v, rfl, rfl, h1, by rw [← h2.length]; exact hv, q.write r hy (.lst h2.dropLast) rv⟩
      · cases e
    · cases e
  · obtain ⟨y, rfl, ry⟩ := rs.one1
    cases rx
    cases ry
    split at e
    · next ys hy =>
      split at e
      · next hi =>
        split at e
        · next k hk =>
          split at e
          · next z hz =>
            cases e
            obtain ⟨vs, h1, h2⟩ := r.lst hy
            obtain ⟨v, hv, rv⟩ := h2.get hz
            exact .inr ⟨_, vs, _, k, v, rfl, rfl, h1, by have := hi.1; omega, by have := hi.2; omega, by rw [← h2.length]; exact hk, hv, q.write r hy (.lst (h2.eraseIdx k)) rv⟩
          · cases e
        · cases e
      · cases e
    · cases e
  · cases e
end
section
variable {X : Cx} {S : SI} {W : WX} {e o : Expr} {es : List Expr} {mo : EM} {mr : AM} {pos p apos : Pos}
theorem pe_mtL {g : D → List D → Mem → Option (D × Mem)} {r : V → List V → Hp → VK → Prop} (h : ∀ to t, PE X o to → PA X es t → PE X e (tBM X.K "list" r to t)) (hr : ∀ x xs H Q, rDm X.K X.mg S.T g x xs H Q → r x xs H Q) (ho : PE X o (TEm X S W mo)) (ha : PA X es (TAm X S W mr)) :
    PE X e (TEm X S W <| eMtL g mo mr) := PEi (h _ _ ho ha) fun σ H Q ⟨w, δ, μ, h⟩ => ⟨w, δ, μ, (At.bind h).mono fun x H1 ⟨w1, μ1, d, le, rd, h1⟩ => by
    split at h1
    · next hs =>
      obtain ⟨ys, hy⟩ := Option.isSome_iff_exists.mp hs
      obtain ⟨a, vs, rfl, h2, h3⟩ := lstX_rel h1.2.1 rd hy
      refine ⟨.inl ⟨rfl, vs, .inl (.inl h2)⟩, w1, δ, μ1, (At.bind h1).mono fun zs H2 ⟨w2, μ2, f, le2, re, h2⟩ => ?_⟩
      obtain ⟨z, μ3, e, q⟩ := h2.optM
      exact hr _ _ _ _ ⟨w2, μ2, d, f, z, μ3, h2.2.1, rd.mono le2, re, e, q⟩
    · exact h1.2.2.elim⟩
theorem MtR.ofM {id : String} {r : V → List V → Hp → VK → Prop} (h : MtM X id r) : MtR X id r := fun pins s σ H x xs v us Q I rx rs q => h pins s σ H x xs v us Q I rx rs q
theorem pe_append' (ho : PE X o (TEm X S W mo)) (ha : PA X (e :: es) (TAm X S W mr)) (hbase : attributeBase o "append" X.env (eval o X.env) = eval o X.env := by rfl)
    (hfew : ((backTo pos (starEach (e :: es) X.env)).all (fun x => !x.1) && (backToKw pos (keywordEach [] X.env)).all (fun x => x.1.isSome) && decide ((e :: es).length + ([] : List Keyword).length + (if ([] : List Keyword).isEmpty then 0 else 1) < 30)) = true := by rfl)
    (hline : (apos.endLine == pos.line) = true := by rfl) (hs : starEach (e :: es) X.env = (false, eval e X.env) :: starEach es X.env := by rfl) (hplain : (backTo pos (starEach es X.env)).any (·.1) = false := by rfl) :
    PE X (.Call (.Attribute o "append" apos) (e :: es) [] pos) (TEm X S W <| eMtL gAppend mo mr) :=
  pe_mtL (fun to t ho ha => pe_bm PySem.F.plainAttrs_list PySem.F.slot_list_append PySem.F.type_list_append (MtR.ofM mt_append) ho ha hbase hfew hline hs hplain) (fun _ _ _ _ => append_r) ho ha
theorem pe_extend' (ho : PE X o (TEm X S W mo)) (ha : PA X (e :: es) (TAm X S W mr)) (hbase : attributeBase o "extend" X.env (eval o X.env) = eval o X.env := by rfl)
    (hfew : ((backTo pos (starEach (e :: es) X.env)).all (fun x => !x.1) && (backToKw pos (keywordEach [] X.env)).all (fun x => x.1.isSome) && decide ((e :: es).length + ([] : List Keyword).length + (if ([] : List Keyword).isEmpty then 0 else 1) < 30)) = true := by rfl)
    (hline : (apos.endLine == pos.line) = true := by rfl) (hs : starEach (e :: es) X.env = (false, eval e X.env) :: starEach es X.env := by rfl) (hplain : (backTo pos (starEach es X.env)).any (·.1) = false := by rfl) :
    PE X (.Call (.Attribute o "extend" apos) (e :: es) [] pos) (TEm X S W <| eMtL gExtend mo mr) :=
  pe_mtL (fun to t ho ha => pe_bm PySem.F.plainAttrs_list PySem.F.slot_list_extend PySem.F.type_list_extend (MtR.ofM mt_extend) ho ha hbase hfew hline hs hplain) (fun _ _ _ _ => extend_r) ho ha
theorem pe_pop1' (ho : PE X o (TEm X S W mo)) (ha : PA X (e :: es) (TAm X S W mr)) (hbase : attributeBase o "pop" X.env (eval o X.env) = eval o X.env := by rfl)
    (hfew : ((backTo pos (starEach (e :: es) X.env)).all (fun x => !x.1) && (backToKw pos (keywordEach [] X.env)).all (fun x => x.1.isSome) && decide ((e :: es).length + ([] : List Keyword).length + (if ([] : List Keyword).isEmpty then 0 else 1) < 30)) = true := by rfl)
    (hline : (apos.endLine == pos.line) = true := by rfl) (hs : starEach (e :: es) X.env = (false, eval e X.env) :: starEach es X.env := by rfl) (hplain : (backTo pos (starEach es X.env)).any (·.1) = false := by rfl) :
    PE X (.Call (.Attribute o "pop" apos) (e :: es) [] pos) (TEm X S W <| eMtL gPop mo mr) :=
  pe_mtL (fun to t ho ha => pe_bm PySem.F.plainAttrs_list PySem.F.slot_list_pop PySem.F.type_list_pop (MtR.ofM mt_pop |>.or (MtR.ofM mt_popAt)) ho ha hbase hfew hline hs hplain) (fun _ _ _ _ => pop_r) ho ha
theorem pe_pop0' (ho : PE X o (TEm X S W mo)) (hbase : attributeBase o "pop" X.env (eval o X.env) = eval o X.env := by rfl) (hline : (apos.endLine == pos.line) = true := by rfl) :
    PE X (.Call (.Attribute o "pop" apos) [] [] pos) (TEm X S W <| eMtL gPop mo aNil) :=
  PEi (pe_bm0 PySem.F.plainAttrs_list PySem.F.slot_list_pop PySem.F.type_list_pop (MtR.ofM mt_pop |>.or (MtR.ofM mt_popAt)) ho hbase hline) fun σ H Q ⟨w, δ, μ, h⟩ => ⟨w, δ, μ, (At.bind h).mono fun x H1 ⟨w1, μ1, d, le, rd, h1⟩ => by
    split at h1
    · next hs =>
      obtain ⟨ys, hy⟩ := Option.isSome_iff_exists.mp hs
      obtain ⟨a, vs, rfl, h2, h3⟩ := lstX_rel h1.2.1 rd hy
      have h4 : At X.K X.mg S W (RelD X.K X.mg) σ Q w1 δ μ1 H1 (oOfM (gPop d [] μ1)) := h1
      obtain ⟨z, μ3, e, q⟩ := h4.optM
      exact ⟨.inl ⟨rfl, vs, .inl (.inl h2)⟩, pop_r ⟨w1, μ1, d, [], z, μ3, h1.2.1, rd, .nil, e, q⟩⟩
    · exact h1.2.2.elim⟩
end
end Kw

set_option Elab.async false
set_option linter.all false
set_option maxRecDepth 100000
namespace Kw
open PySem PySem.Spec PyProof.Rows L2

/-! ### statements -/
inductive SOut where
  | nx (δ : Sv) (μ : Mem)
  | ret (d : D) (μ : Mem)
  | bk (δ : Sv) (μ : Mem)
  | ct (δ : Sv) (μ : Mem)
  | exc (x : Xn) (δ : Sv) (μ : Mem)
  | stuck
abbrev SM := Sv → Mem → SOut
def Out.bindS {α : Type} (o : Out α) (δ : Sv) (k : α → Mem → SOut) : SOut := match o with
  | .ok a μ => k a μ
  | .exc x μ => .exc x δ μ
  | .stuck => .stuck
def SOut.then (o : SOut) (k : Sv → Mem → SOut) : SOut := match o with
  | .nx δ μ => k δ μ
  | o => o
section
variable (K : PySem.W.Frag) (mg : Str → Option Value) (S : SI) (W : WX)
/-- what is wanted behind a statement, by how it ends -/
def STo (D : Ends) (w : Wd) : SOut → Prop
  | .nx δ μ => ∀ w' σ H, w.Le w' → RelM K mg S.T w' μ H → RelSv K mg S w' δ σ → D.nx σ H
  | .ret d μ => ∀ w' v H, w.Le w' → RelM K mg S.T w' μ H → RelD K mg w' d v → D.rt v H
  | .bk δ μ => ∀ w' σ H, w.Le w' → RelM K mg S.T w' μ H → RelSv K mg S w' δ σ → D.bk σ H
  | .ct δ μ => ∀ w' σ H, w.Le w' → RelM K mg S.T w' μ H → RelSv K mg S w' δ σ → D.ct σ H
  | .exc x δ μ => ∀ w' cls dd σ H, w.Le w' → RelM K mg S.T w' μ H → RelSv K mg S w' δ σ → RelX K mg w' x cls dd → W cls dd σ H
  | .stuck => False
def tS (m : SM) : TS := fun D σ H => ∃ w δ μ, RelSv K mg S w δ σ ∧ RelM K mg S.T w μ H ∧ STo K mg S W D w (m δ μ)
/-- a target -/
abbrev GM := D → Sv → Mem → SOut
abbrev GsM := List D → Sv → Mem → SOut
def tG (m : GM) : TG := fun v σ H Q => ∃ D w δ μ d, RelSv K mg S w δ σ ∧ RelM K mg S.T w μ H ∧ RelD K mg w d v ∧ STo K mg S W D w (m d δ μ) ∧ ∀ σ H, D.nx σ H → Q σ H
def tGs (m : GsM) : TGs := fun vs σ H Q => ∃ D w δ μ ds, RelSv K mg S w δ σ ∧ RelM K mg S.T w μ H ∧ RelDs K mg w ds vs ∧ STo K mg S W D w (m ds δ μ) ∧ ∀ σ H, D.nx σ H → Q σ H
/-- what a for walks: the items, as they stand -/
def Walks (T : List (Addr × Str)) (w0 : Wd) (items : List D) (J : It) : Prop := ∀ w μ H i, w0.Lw w → RelM K mg T w μ H →
  (∀ d, items[i]? = some d → J.go i H ∧ ∀ x H', J.yld i H x H' → ∃ w1, w.Le w1 ∧ RelM K mg T w1 μ H' ∧ RelD K mg w1 d x) ∧ (items.length = i → J.stop i H)
abbrev IM := Sv → Mem → Out (List D)
def tI (m : IM) : TI := tM K mg S W (Walks K mg S.T) m
end
abbrev TSm (X : Cx) (S : SI) (W : WX) (m : SM) : TS := tS X.K X.mg S W m
abbrev TGm (X : Cx) (S : SI) (W : WX) (m : GM) : TG := tG X.K X.mg S W m
abbrev TGsm (X : Cx) (S : SI) (W : WX) (m : GsM) : TGs := tGs X.K X.mg S W m
abbrev TIm (X : Cx) (S : SI) (W : WX) (m : IM) : TI := tI X.K X.mg S W m
section
variable {K : PySem.W.Frag} {mg : Str → Option Value} {S : SI} {W : WX} {D D' : Ends} {w w' : Wd} {δ : Sv} {μ : Mem} {σ : L2.St} {H : Hp}
theorem STo.mono (le : w.Le w') {o : SOut} (h : STo K mg S W D w o) : STo K mg S W D w' o := by
  cases o with
  | nx δ μ => exact fun w2 σ H l => h w2 σ H (le.trans l)
  | ret d μ => exact fun w2 σ H l => h w2 σ H (le.trans l)
  | bk δ μ => exact fun w2 σ H l => h w2 σ H (le.trans l)
  | ct δ μ => exact fun w2 σ H l => h w2 σ H (le.trans l)
  | exc x δ μ => exact fun w2 c d σ H l => h w2 c d σ H (le.trans l)
  | stuck => exact h
theorem At.bindS {α β : Type} {R : Wd → α → β → Prop} {o : Out α} {k : α → Mem → SOut} (hs : RelSv K mg S w δ σ) (hm : RelM K mg S.T w μ H) (h : STo K mg S W D w (o.bindS δ k)) :
    At K mg S W R σ (fun v H1 => ∃ w1 μ1 d, w.Le w1 ∧ R w1 d v ∧ RelSv K mg S w1 δ σ ∧ RelM K mg S.T w1 μ1 H1 ∧ STo K mg S W D w1 (k d μ1)) w δ μ H o := by
  refine ⟨hs, hm, ?_⟩
  cases o with
  | ok a μ' => exact fun w1 v H1 le r rd => ⟨w1, μ', a, le, rd, hs.mono le, r, STo.mono le h⟩
  | exc x μ' => exact fun w1 c d H1 le r rx => h w1 c d σ H1 le r (hs.mono le) rx
  | stuck => exact h
end

/-! ### simple statements -/
def sNext : SM := fun δ μ => .nx δ μ
def sSeq (a b : SM) : SM := fun δ μ => (a δ μ).then b
def sRet (ma : EM) : SM := fun δ μ => (ma δ μ).bindS δ fun d μ1 => .ret d μ1
def sRetN : SM := fun _ μ => .ret .non μ
def sDrop (ma : EM) : SM := fun δ μ => (ma δ μ).bindS δ fun _ μ1 => .nx δ μ1
def sIf (mt : TM) (a b : SM) : SM := fun δ μ => (mt δ μ).bindS δ fun k μ1 => if k = true then a δ μ1 else b δ μ1
def sAsg (ma : EM) (g : GM) : SM := fun δ μ => (ma δ μ).bindS δ fun d μ1 => g d δ μ1
def gNm (i : Nat) : GM := fun d δ μ => .nx (δ.set i (some d)) μ
def gsNil : GsM := fun ds δ μ => match ds with
  | [] => .nx δ μ
  | _ => .stuck
def gsCons (g : GM) (gs : GsM) : GsM := fun ds δ μ => match ds with
  | d :: r => (g d δ μ).then (gs r)
  | [] => .stuck
def gSeq (n : Nat) (gs : GsM) : GM := fun d δ μ => match seqOf μ d with
  | some xs => if xs.length = n then gs xs δ μ else .stuck
  | none => .stuck
def sPar (i j : Nat) (ma : AM) : SM := fun δ μ => (ma δ μ).bindS δ fun ds μ1 => match ds with
  | [a, b] => .nx ((δ.set i (some a)).set j (some b)) μ1
  | _ => .stuck
def sAug (i : Nat) (g : D → D → Mem → Option D) (ma : EM) : SM := fun δ μ => match δ[i]? with
  | some (some x) => (ma δ μ).bindS δ fun y μ1 => match x with
    | .lam => .stuck
    | .exc _ _ => .stuck
    | x => match g x y μ1 with
      | some z => .nx (δ.set i (some z)) μ1
      | none => .stuck
  | _ => .stuck
def sBreak : SM := fun δ μ => .bk δ μ
def sCont : SM := fun δ μ => .ct δ μ
def sStop : SM := fun _ _ => .stuck
section
variable {X : Cx} {S : SI} {W : WX} {a b e tg iter c : Expr} {ma mo mi : EM} {mt : TM} {m m1 m2 : SM} {mg : GM} {mgs : GsM} {mr : AM} {pos p p' pos' : Pos} {x y : Str} {i j n k : Nat} {st : Stmt} {rest body : List Stmt} {es : List Expr}
theorem PGi {e : Expr} {t t' : TG} (h : PG X e t') (i : ∀ v σ H Q, t v σ H Q → t' v σ H Q) : PG X e t := ⟨fun pins s σ H v u Q I r q => h.run pins s σ H v u Q I r (i _ _ _ _ q)⟩
theorem PGsi {e : List Expr} {t t' : TGs} (h : PGs X e t') (i : ∀ v σ H Q, t v σ H Q → t' v σ H Q) : PGs X e t := ⟨fun pins s σ H v u Q I r q => h.run pins s σ H v u Q I r (i _ _ _ _ q)⟩
theorem PGor {e : Expr} {t t' : TG} (h : PG X e t) (h' : PG X e t') : PG X e (fun v σ H Q => t v σ H Q ∨ t' v σ H Q) := ⟨fun pins s σ H v u Q I r q => q.elim (h.run pins s σ H v u Q I r) (h'.run pins s σ H v u Q I r)⟩
theorem pss_nil' : PSs X [] (TSm X S W sNext) := PSsi pss_nil fun D σ H ⟨w, δ, μ, rs, rm, h⟩ => h w σ H (Wd.Le.refl _) rm rs
theorem STo.seq {D : Ends} {w : Wd} {o : SOut} {k : SM} (h : STo X.K X.mg S W D w (o.then k)) : STo X.K X.mg S W { D with nx := TSm X S W k D } w o := by
  cases o with
  | nx δ μ => exact fun w' σ H le rm rs => ⟨w', δ, μ, rs, rm, STo.mono le h⟩
  | _ => exact h
theorem pss_cons' (h1 : PS X st (TSm X S W m1)) (h2 : PSs X rest (TSm X S W m2)) : PSs X (st :: rest) (TSm X S W <| sSeq m1 m2) := PSsi (pss_cons h1 h2) fun D σ H ⟨w, δ, μ, rs, rm, h⟩ => ⟨w, δ, μ, rs, rm, h.seq⟩
theorem pss_one' (h1 : PS X st (TSm X S W m1)) : PSs X [st] (TSm X S W m1) := pss_one h1
theorem ps_ret' (ha : PE X a (TEm X S W ma)) : PS X (.Return (some a) pos) (TSm X S W <| sRet ma) := PSi (ps_ret ha) fun D σ H ⟨w, δ, μ, rs, rm, h⟩ => ⟨w, δ, μ, (At.bindS rs rm h).mono fun v H1 ⟨w1, μ1, d, le, rd, rs1, rm1, q⟩ => q w1 v H1 (Wd.Le.refl _) rm1 rd⟩
theorem ps_retN' : PS X (.Return none pos) (TSm X S W sRetN) := PSi ps_retN fun D σ H ⟨w, δ, μ, rs, rm, h⟩ => h w _ H (Wd.Le.refl _) rm .non
theorem ps_pass' : PS X (.Pass pos) (TSm X S W sNext) := PSi ps_pass fun D σ H ⟨w, δ, μ, rs, rm, h⟩ => h w σ H (Wd.Le.refl _) rm rs
theorem ps_break' : PS X (.Break pos) (TSm X S W sBreak) := PSi ps_break fun D σ H ⟨w, δ, μ, rs, rm, h⟩ => h w σ H (Wd.Le.refl _) rm rs
theorem ps_cont' : PS X (.Continue pos) (TSm X S W sCont) := PSi ps_continue fun D σ H ⟨w, δ, μ, rs, rm, h⟩ => h w σ H (Wd.Le.refl _) rm rs
theorem ps_stop' : PS X st (TSm X S W sStop) := PSi ps_never fun D σ H ⟨w, δ, μ, rs, rm, h⟩ => h
theorem ps_expr' (ha : PE X a (TEm X S W ma)) (hs : swapsWith a none pos.line X.env = pure false := by rfl) : PS X (.Expr a pos) (TSm X S W <| sDrop ma) := PSi (ps_expr ha hs) fun D σ H ⟨w, δ, μ, rs, rm, h⟩ => ⟨w, δ, μ, (At.bindS rs rm h).mono fun v H1 ⟨w1, μ1, d, le, rd, rs1, rm1, q⟩ => q w1 σ H1 (Wd.Le.refl _) rm1 rs1⟩
theorem ps_if' {b' : List Stmt} (hc : PT X c (TTm X S W mt)) (h1 : PSs X body (TSm X S W m1)) (h2 : PSs X b' (TSm X S W m2)) : PS X (.If c body b' pos) (TSm X S W <| sIf mt m1 m2) := PSi (ps_if hc h1 h2) fun D σ H ⟨w, δ, μ, rs, rm, h⟩ => ⟨w, δ, μ, (At.bindS rs rm h).mono fun v H1 ⟨w1, μ1, d, le, rd, rs1, rm1, q⟩ => by
  cases rd
  split
  · next hv => rw [if_pos hv] at q; exact ⟨w1, δ, μ1, rs1, rm1, q⟩
  · next hv => rw [if_neg hv] at q; exact ⟨w1, δ, μ1, rs1, rm1, q⟩⟩
theorem ps_asg' (he : PE X e (TEm X S W ma)) (hg : PG X tg (TGm X S W mg)) (hs : swapsWithSole [tg] e pos.line X.env = pure false := by rfl) (hw : swappedStores [tg] e X.env = pure none := by rfl)
    (h1 : (assignEach [tg] X.env).map (·.2) = [assign tg X.env] := by rfl) : PS X (.Assign [tg] e pos) (TSm X S W <| sAsg ma mg) := PSi (ps_asg he hg hs hw h1) fun D σ H ⟨w, δ, μ, rs, rm, h⟩ => ⟨w, δ, μ, (At.bindS rs rm h).mono fun v H1 ⟨w1, μ1, d, le, rd, rs1, rm1, q⟩ => ⟨D, w1, δ, μ1, d, rs1, rm1, rd, q, fun _ _ q => q⟩⟩
theorem ps_set' (hN : X.N.Nodup) (hi : X.N[i]? = some x) (hx : Loc X.env.scope x) (he : PE X e (TEm X S W ma)) (hs : swapsWith e (some (.Name x pos')) pos.line X.env = pure false := by rfl) (hf : X.fn x = true ∨ X.env.scope.names.lookup x = some .local := by first | exact .inl rfl | exact .inr rfl | assumption) :
    PS X (.Assign [.Name x pos'] e pos) (TSm X S W <| sAsg ma (gNm i)) := PSi (ps_set hN hi hx he hs hf) fun D σ H ⟨w, δ, μ, rs, rm, h⟩ => ⟨w, δ, μ, (At.bindS rs rm h).mono fun v H1 ⟨w1, μ1, d, le, rd, rs1, rm1, q⟩ => q w1 _ H1 (Wd.Le.refl _) rm1 (rs1.set i rd)⟩
theorem pg_name' (hN : X.N.Nodup) (hi : X.N[i]? = some x) (hx : Loc X.env.scope x) (hf : X.fn x = true ∨ X.env.scope.names.lookup x = some .local := by first | exact .inl rfl | exact .inr rfl | assumption) : PG X (.Name x pos) (TGm X S W <| gNm i) :=
  PGi (pg_name hN hi hx hf) fun v σ H Q ⟨D, w, δ, μ, d, rs, rm, rd, q, hq⟩ => hq _ _ (q w _ H (Wd.Le.refl _) rm (rs.set i rd))
theorem pgs_nil' : PGs X [] (TGsm X S W gsNil) := PGsi pgs_nil fun v σ H Q ⟨D, w, δ, μ, d, rs, rm, rd, q, hq⟩ => by
  unfold gsNil at q
  split at q
  · cases rd
    exact ⟨rfl, hq _ _ (q w _ H (Wd.Le.refl _) rm rs)⟩
  · exact q.elim
theorem pgs_cons' (h1 : PG X e (TGm X S W mg)) (h2 : PGs X es (TGsm X S W mgs)) (hs : (assignEach (e :: es) X.env).map (·.2) = assign e X.env :: (assignEach es X.env).map (·.2) := by rfl) : PGs X (e :: es) (TGsm X S W <| gsCons mg mgs) :=
  PGsi (pgs_cons h1 h2 hs) fun v σ H Q ⟨D, w, δ, μ, ds, rs, rm, rd, q, hq⟩ => by
    unfold gsCons at q
    split at q
    · next d r =>
      cases rd with
      | @cons _ _ u us r1 r2 =>
        refine ⟨u, us, rfl, { D with nx := fun σ' H' => TGsm X S W mgs us σ' H' Q }, w, δ, μ, d, rs, rm, r1, ?_, fun _ _ q => q⟩
        generalize mg d δ μ = o at q
        cases o with
        | nx δ' μ' => exact fun w' σ' H' le rm' rs' => ⟨D, w', δ', μ', r, rs', rm', RelDs.mono le r2, STo.mono le q, hq⟩
        | _ => exact q
    · exact q.elim
theorem pg_seq' {kk : Nat} (hc : X.calm = true) (h : PGs X es (TGsm X S W mgs)) (hn : (assignEach es X.env).length = n := by rfl) (hst : (assignEach es X.env).findIdx? (·.1) = none := by rfl) : PG X (.Tuple es kk pos) (TGm X S W <| gSeq n mgs) :=
  PGi (PGor (pg_tup hc h hn hst) (pg_unl hc h hn hst)) fun v σ H Q ⟨D, w, δ, μ, d, rs, rm, rd, q, hq⟩ => by
    unfold gSeq at q
    split at q
    · next xs hx =>
      split at q
      · next hl =>
        obtain ⟨a, vs, h1, h2, h3⟩ := seqOf_rel rm rd hx
        rcases h2 with h2 | h2
        · exact .inr ⟨a, vs, h1, h2, by rw [← h3.length]; exact hl, D, w, δ, μ, xs, rs, rm, h3, q, hq⟩
        · exact .inl ⟨a, vs, h1, h2, by rw [← h3.length]; exact hl, D, w, δ, μ, xs, rs, rm, h3, q, hq⟩
      · exact q.elim
    · exact q.elim
theorem ps_par' {px py pt : Pos} {kt k2 pt2} (hc : X.calm = true) (hN : X.N.Nodup) (hi : X.N[i]? = some x) (hj : X.N[j]? = some y) (hij : i ≠ j)
    (hx : X.env.scope.names.lookup x = some .local) (hy : X.env.scope.names.lookup y = some .local) (ha : PA X [a, b] (TAm X S W mr))
    (hw : swappedStores [.Tuple [.Name x px, .Name y py] kt pt] (.Tuple [a, b] k2 pt2) X.env = pure (some [x, y]))
    (hs : swapsWithSole [.Tuple [.Name x px, .Name y py] kt pt] (.Tuple [a, b] k2 pt2) pos.line X.env = pure false := by rfl) :
    PS X (.Assign [.Tuple [.Name x px, .Name y py] kt pt] (.Tuple [a, b] k2 pt2) pos) (TSm X S W <| sPar i j mr) :=
  PSi (ps_par hc hN hi hj hij hx hy ha hw hs) fun D σ H ⟨w, δ, μ, rs, rm, h⟩ => ⟨w, δ, μ, (At.bindS rs rm h).mono fun v H1 ⟨w1, μ1, d, le, rd, rs1, rm1, q⟩ => by
    split at q
    · obtain ⟨v1, v2, rfl, r1, r2⟩ := rd.two2
      exact ⟨v1, v2, rfl, q w1 _ H1 (Wd.Le.refl _) rm1 ((rs1.set i r1).set j r2)⟩
    · exact q.elim⟩
theorem ps_aug' {op : Operator} {r : R2} {g : D → D → Mem → Option D} (ho : OpR X (inplaceOp op) r) (hr : ∀ x y H Q, rD2 X.K X.mg S.T g x y H Q → r x y H Q) (hN : X.N.Nodup) (hi : X.N[i]? = some x) (hx : Loc X.env.scope x) (he : PE X e (TEm X S W ma))
    (hf : X.fn x = true ∨ X.env.scope.names.lookup x = some .local := by first | exact .inl rfl | exact .inr rfl | assumption) : PS X (.AugAssign (.Name x pos') op e pos) (TSm X S W <| sAug i g ma) :=
  PSi (ps_aug hN hi hx he (ti := r) (fun pins s σ H x y v u Q I rx ry q => ho pins s σ H x y v u Q I rx ry q) hf) fun D σ H ⟨w, δ, μ, rs, rm, h⟩ => by
    unfold sAug at h
    split at h
    · next d hd =>
      obtain ⟨v, hv, rv⟩ := rs.2 i d hd
      refine ⟨v, hv, w, δ, μ, (At.bindS rs rm h).mono fun u H1 ⟨w1, μ1, d1, le, rd, rs1, rm1, q⟩ => ?_⟩
      split at q
      · exact q.elim
      · exact q.elim
      · next n1 n2 =>
        split at q
        · next z hz =>
          have rx : RelD X.K X.mg w d v := by
            cases d with
            | lam => exact absurd rfl n1
            | exc c fs => exact absurd rfl (n2 c fs)
            | _ => exact rv
          exact hr _ _ _ _ ⟨w1, μ1, d, d1, z, rm1, rx.mono le, rd, hz, fun w2 v2 H2 le2 rm2 rd2 => q w2 _ H2 le2 rm2 ((rs1.mono le2).set i rd2)⟩
        · exact q.elim
    · exact h.elim
end
end Kw

set_option Elab.async false
set_option linter.all false
set_option maxRecDepth 100000
namespace Kw
open PySem PySem.Spec PyProof.Rows L2

/-! ### loops -/
def loopS (g : GM) (b : SM) : List D → SM
  | [], δ, μ => .nx δ μ
  | d :: ds, δ, μ => match g d δ μ with
    | .nx δ1 μ1 => match b δ1 μ1 with
      | .nx δ2 μ2 => loopS g b ds δ2 μ2
      | .ct δ2 μ2 => loopS g b ds δ2 μ2
      | .bk δ2 μ2 => .nx δ2 μ2
      | .ret v μ2 => .ret v μ2
      | .exc x δ2 μ2 => .exc x δ2 μ2
      | .stuck => .stuck
    | .exc x δ2 μ2 => .exc x δ2 μ2
    | _ => .stuck
def sFor (mi : IM) (g : GM) (b : SM) : SM := fun δ μ => (mi δ μ).bindS δ fun items μ1 => loopS g b items δ μ1
def whileS (c : TM) (b : SM) : Nat → SM
  | 0, _, _ => .stuck
  | n + 1, δ, μ => (c δ μ).bindS δ fun k μ1 => if k = true then match b δ μ1 with
      | .nx δ2 μ2 => whileS c b n δ2 μ2
      | .ct δ2 μ2 => whileS c b n δ2 μ2
      | .bk δ2 μ2 => .nx δ2 μ2
      | .ret v μ2 => .ret v μ2
      | .exc x δ2 μ2 => .exc x δ2 μ2
      | .stuck => .stuck
    else .nx δ μ1
def sWhile (fuel : Sv → Mem → Nat) (c : TM) (b : SM) : SM := fun δ μ => whileS c b (fuel δ μ) δ μ

section
variable {X : Cx} {S : SI} {W : WX} {a b e tg iter c : Expr} {ma : EM} {mt : TM} {m m1 m2 : SM} {g : GM} {mr : AM} {mi : IM} {pos p : Pos} {body : List Stmt} {es : List Expr}
theorem ps_for' (hp : PassesOwn (model X.prog X.w) X.A X.env X.xe) (hc : X.calm = true) (hi : PI X tg iter (TIm X S W mi)) (hg : PG X tg (TGm X S W g)) (hb : PSs X body (TSm X S W m))
    (hs : ∀ x, foldedSetIterable iter X.env x = pure x := by intro _; rfl) : PS X (.For tg iter body [] pos) (TSm X S W <| sFor mi g m) :=
  PSi (ps_for hp hc hi hg hb hs) fun D σ H ⟨w, δ, μ, rs, rm, h⟩ => ⟨w, δ, μ, (At.bindS rs rm h).mono fun J H1 ⟨w1, μ1, items, le1, wk, rs1, rm1, q⟩ => by
    refine ⟨fun i n σ H => n + i = items.length ∧ ∃ w δ μ, w1.Le w ∧ RelSv X.K X.mg S w δ σ ∧ RelM X.K X.mg S.T w μ H ∧ STo X.K X.mg S W D w (loopS g m (items.drop i) δ μ), ⟨items.length, rfl, w1, δ, μ1, Wd.Le.refl _, rs1, rm1, q⟩, ?_⟩
    intro i n σ H ⟨hn, w2, δ2, μ2, le2, rs2, rm2, q2⟩
    obtain ⟨k1, k2⟩ := wk w2 μ2 H i le2.lw rm2
    by_cases hi : i < items.length
    · right
      have hd : items[i]? = some items[i] := List.getElem?_eq_getElem hi
      obtain ⟨go, yl⟩ := k1 _ hd
      rw [List.drop_eq_getElem_cons hi] at q2
      refine ⟨go, fun σ' H' => ∃ w δ μ, w1.Le w ∧ RelSv X.K X.mg S w δ σ' ∧ RelM X.K X.mg S.T w μ H' ∧ STo X.K X.mg S W D w (loopS g m (items.drop (i + 1)) δ μ), fun σ' H' hN => ⟨items.length - (i + 1), by omega, by omega, hN⟩, fun x H' hy => ?_⟩
      obtain ⟨w3, le3, rm3, rd⟩ := yl x H' hy
      have q3 := STo.mono le3 q2
      generalize items[i] = d at q3 rd
      unfold loopS at q3
      refine ⟨{ D with nx := fun σ' H' => TSm X S W m { D with nx := fun σ' H' => ∃ w δ μ, w1.Le w ∧ RelSv X.K X.mg S w δ σ' ∧ RelM X.K X.mg S.T w μ H' ∧ STo X.K X.mg S W D w (loopS g m (items.drop (i + 1)) δ μ), ct := fun σ' H' => ∃ w δ μ, w1.Le w ∧ RelSv X.K X.mg S w δ σ' ∧ RelM X.K X.mg S.T w μ H' ∧ STo X.K X.mg S W D w (loopS g m (items.drop (i + 1)) δ μ), bk := D.nx } σ' H' }, w3, δ2, μ2, d, rs2.mono le3, rm3, rd, ?_, fun _ _ q => q⟩
      generalize g d δ2 μ2 = o at q3
      cases o with
      | nx δ3 μ3 =>
        intro w4 σ4 H4 le4 rm4 rs4
        refine ⟨w4, δ3, μ3, rs4, rm4, ?_⟩
        have q4 := STo.mono le4 q3
        have l14 := (le2.trans le3).trans le4
        show STo X.K X.mg S W _ w4 (m δ3 μ3)
        simp only at q4
        generalize m δ3 μ3 = o at q4
        cases o with
        | nx δ5 μ5 => exact fun w5 σ5 H5 le5 rm5 rs5 => ⟨w5, δ5, μ5, l14.trans le5, rs5, rm5, STo.mono le5 q4⟩
        | ct δ5 μ5 => exact fun w5 σ5 H5 le5 rm5 rs5 => ⟨w5, δ5, μ5, l14.trans le5, rs5, rm5, STo.mono le5 q4⟩
        | bk δ5 μ5 => exact q4
        | ret v μ5 => exact q4
        | exc x δ5 μ5 => exact q4
        | stuck => exact q4
      | exc x δ3 μ3 => exact q3
      | _ => exact q3.elim
    · left
      rw [List.drop_eq_nil_of_le (by omega)] at q2
      exact ⟨k2 (by omega), q2 w2 σ H (Wd.Le.refl _) rm2 rs2⟩⟩
theorem ps_while' {fuel : Sv → Mem → Nat} (hp : PassesOwn (model X.prog X.w) X.A X.env X.xe) (hc : PT X c (TTm X S W mt)) (hb : PSs X body (TSm X S W m)) : PS X (.While c body [] pos) (TSm X S W <| sWhile fuel mt m) :=
  PSi (ps_while hp hc hb) fun D σ H ⟨w, δ, μ, rs, rm, h⟩ => by
    refine ⟨fun n σ H => ∃ w δ μ, RelSv X.K X.mg S w δ σ ∧ RelM X.K X.mg S.T w μ H ∧ STo X.K X.mg S W D w (whileS mt m n δ μ), ⟨fuel δ μ, w, δ, μ, rs, rm, h⟩, ?_⟩
    intro n σ H ⟨w1, δ1, μ1, rs1, rm1, q1⟩
    cases n with
    | zero => exact q1.elim
    | succ n =>
      refine ⟨w1, δ1, μ1, (At.bindS rs1 rm1 q1).mono fun v H2 ⟨w2, μ2, k, le2, rk, rs2, rm2, q2⟩ => ?_⟩
      cases rk
      split
      · next hk =>
        rw [if_pos hk] at q2
        refine ⟨fun σ' H' => ∃ w δ μ, RelSv X.K X.mg S w δ σ' ∧ RelM X.K X.mg S.T w μ H' ∧ STo X.K X.mg S W D w (whileS mt m n δ μ), fun σ' H' hN => ⟨n, Nat.lt_succ_self n, hN⟩, w2, δ1, μ2, rs2, rm2, ?_⟩
        generalize m δ1 μ2 = o at q2
        cases o with
        | nx δ5 μ5 => exact fun w5 σ5 H5 le5 rm5 rs5 => ⟨w5, δ5, μ5, rs5, rm5, STo.mono le5 q2⟩
        | ct δ5 μ5 => exact fun w5 σ5 H5 le5 rm5 rs5 => ⟨w5, δ5, μ5, rs5, rm5, STo.mono le5 q2⟩
        | bk δ5 μ5 => exact q2
        | ret v μ5 => exact q2
        | exc x δ5 μ5 => exact q2
        | stuck => exact q2
      · next hk =>
        rw [if_neg hk] at q2
        exact q2 w2 _ H2 (Wd.Le.refl _) rm2 rs2
/-! ### what a for walks -/
/-- the items of what never changes -/
def seqV : D → Option (List D)
  | .tup xs => some xs
  | .lst xs => some xs
  | .scr xs => some xs
  | _ => none
def iSeq (ma : EM) : IM := fun δ μ => (ma δ μ).bind fun x μ1 => match seqV x with
  | some xs => .ok xs μ1
  | none => .stuck
def iRange1 (mr : AM) : IM := fun δ μ => (mr δ μ).bind fun xs μ1 => match xs with
  | [.int j] => if -4611686018427387904 ≤ j ∧ j < 4611686018427387904 then .ok ((List.range j.toNat).map fun (k : Nat) => .int (k : Int)) μ1 else .stuck
  | _ => .stuck
def iRange2 (mr : AM) : IM := fun δ μ => (mr δ μ).bind fun xs μ1 => match xs with
  | [.int i, .int j] => if (-4611686018427387904 ≤ i ∧ i < 4611686018427387904) ∧ -4611686018427387904 ≤ j ∧ j < 4611686018427387904 then .ok ((List.range (j - i).toNat).map fun (k : Nat) => .int (i + (k : Int))) μ1 else .stuck
  | _ => .stuck
theorem PIi {t t' : TI} (h : PI X tg iter t') (i : ∀ σ H Q, t σ H Q → t' σ H Q) : PI X tg iter t := ⟨fun pins s σ H R I q => h.run pins s σ H R I (i _ _ _ q)⟩
theorem PIor {t t' : TI} (h : PI X tg iter t) (h' : PI X tg iter t') : PI X tg iter (fun σ H Q => t σ H Q ∨ t' σ H Q) := ⟨fun pins s σ H R I q => q.elim (h.run pins s σ H R I) (h'.run pins s σ H R I)⟩
section
variable {K : PySem.W.Frag} {mg : Str → Option Value} {T : List (Addr × Str)} {w0 : Wd}
theorem walks_rng {i : Int} {n : Nat} : Walks K mg T w0 ((List.range n).map fun (k : Nat) => .int (i + (k : Int))) (Itr i n) := fun w μ H k le rm => by
  refine ⟨fun d hd => ?_, fun hk => by simp at hk; exact Nat.le_of_eq hk⟩
  have hk : k < n := by
    have := (List.getElem?_eq_some_iff.mp hd).1
    simpa using this
  refine ⟨hk, fun x H' ⟨e, ex⟩ => ⟨w, Wd.Le.refl _, e ▸ rm, ?_⟩⟩
  rw [List.getElem?_map, List.getElem?_range hk] at hd
  cases hd
  subst ex
  exact .int _
theorem walks_lst {a : Addr} {vs : List V} {ds : List D} (hs : SqL K w0.φ a vs ∨ w0.fr a = some (.lst vs)) (hr : RelDs K mg w0 ds vs) : Walks K mg T w0 ds (Itl K a) := fun w μ H k le rm => by
  have hH : SqL K H a vs := scr_H rm (hs.elim (fun h => .inl (sqL_mono le.φ h)) fun h => .inr (by rw [le.fr]; exact h))
  refine ⟨fun d hd => ?_, fun hk => ⟨vs, hH, by rw [← hr.length]; exact Nat.le_of_eq hk⟩⟩
  obtain ⟨v, hv, rv⟩ := hr.get hd
  refine ⟨⟨vs, v, hH, hv⟩, fun x H' ⟨e, ex⟩ => ⟨w, Wd.Le.refl _, e ▸ rm, ?_⟩⟩
  have := ex vs hH
  rw [hv] at this
  cases this
  exact rv.monoW le
theorem walks_tup {a : Addr} {vs : List V} {ds : List D} (hs : SqT K w0.φ a vs) (hr : RelDs K mg w0 ds vs) : Walks K mg T w0 ds (Itt K a) := fun w μ H k le rm => by
  have hH : SqT K H a vs := sqT_mono rm.φ (sqT_mono le.φ hs)
  refine ⟨fun d hd => ?_, fun hk => ⟨vs, hH, by rw [← hr.length]; exact Nat.le_of_eq hk⟩⟩
  obtain ⟨v, hv, rv⟩ := hr.get hd
  refine ⟨⟨vs, v, hH, hv⟩, fun x H' ⟨e, ex⟩ => ⟨w, Wd.Le.refl _, e ▸ rm, ?_⟩⟩
  have := ex vs hH
  rw [hv] at this
  cases this
  exact rv.monoW le
end
theorem pi_seq' (ha : PE X a (TEm X S W ma)) : PI X tg a (TIm X S W <| iSeq ma) := PIi (PIor (pi_list ha) (pi_tup ha)) fun σ H R ⟨w, δ, μ, h⟩ => by
  have h3 := h.2.2
  unfold iSeq at h3
  cases e : ma δ μ with
  | stuck => rw [e] at h3; exact h3.elim
  | exc x μ' => rw [e] at h3; exact .inl ⟨w, δ, μ, h.1, h.2.1, by rw [e]; exact h3⟩
  | ok d μ' =>
    rw [e] at h3
    cases d with
    | tup xs =>
      refine .inr ⟨w, δ, μ, h.1, h.2.1, ?_⟩
      rw [e]
      intro w' v H' le rm rd
      cases rd with
      | @tup b vs ds e rs => exact ⟨b, rfl, ⟨vs, sqT_mono rm.φ e⟩, h3 w' _ H' le rm (walks_tup e rs)⟩
    | lst xs =>
      refine .inl ⟨w, δ, μ, h.1, h.2.1, ?_⟩
      rw [e]
      intro w' v H' le rm rd
      cases rd with
      | @lst b vs ds e rs => exact ⟨b, rfl, ⟨vs, .inl (.inl (rm.φ _ _ e))⟩, h3 w' _ H' le rm (walks_lst (.inl (.inl (.inl e))) rs)⟩
    | scr xs =>
      refine .inl ⟨w, δ, μ, h.1, h.2.1, ?_⟩
      rw [e]
      intro w' v H' le rm rd
      cases rd with
      | @scr b vs ds e rs => exact ⟨b, rfl, ⟨vs, scr_H rm e⟩, h3 w' _ H' le rm (walks_lst e rs)⟩
    | _ => exact h3.elim
theorem pi_range1' (hg : Gl X "range") (hm : X.mg "range" = none) (ha : PA X [a] (TAm X S W mr)) (hs : starEach [a] X.env = [(false, eval a X.env)] := by rfl) : PI X tg (.Call (.Name "range" p) [a] [] pos) (TIm X S W <| iRange1 mr) :=
  PIi (pi_range1 hg hm ha hs) fun σ H R ⟨w, δ, μ, h⟩ => ⟨w, δ, μ, (At.bind h).mono fun v H1 ⟨w1, μ1, d, le, rd, h1⟩ => by
    split at h1
    · next j =>
      obtain ⟨x, rfl, rx⟩ := rd.one1
      cases rx
      split at h1
      · next hj =>
        refine ⟨j, rfl, by omega, by omega, h1.2.2 w1 _ H1 (Wd.Le.refl _) h1.2.1 ?_⟩
        have := walks_rng (K := X.K) (mg := X.mg) (T := S.T) (w0 := w1) (i := 0) (n := j.toNat)
        simpa using this
      · exact h1.2.2.elim
    · exact h1.2.2.elim⟩
theorem pi_range2' (hg : Gl X "range") (hm : X.mg "range" = none) (ha : PA X [a, b] (TAm X S W mr)) (hs : starEach [a, b] X.env = [(false, eval a X.env), (false, eval b X.env)] := by rfl) (hs2 : starEach [b] X.env = [(false, eval b X.env)] := by rfl) :
    PI X tg (.Call (.Name "range" p) [a, b] [] pos) (TIm X S W <| iRange2 mr) :=
  PIi (pi_range2 hg hm ha hs hs2) fun σ H R ⟨w, δ, μ, h⟩ => ⟨w, δ, μ, (At.bind h).mono fun v H1 ⟨w1, μ1, d, le, rd, h1⟩ => by
    split at h1
    · next i j =>
      obtain ⟨x, y, rfl, rx, ry⟩ := rd.two2
      cases rx; cases ry
      split at h1
      · next hj => exact ⟨i, j, rfl, ⟨by omega, by omega, by omega, by omega⟩, h1.2.2 w1 _ H1 (Wd.Le.refl _) h1.2.1 walks_rng⟩
      · exact h1.2.2.elim
    · exact h1.2.2.elim⟩
end
end Kw

set_option Elab.async false
set_option linter.all false
set_option maxRecDepth 100000
namespace Kw
open PySem PySem.Spec PyProof.Rows L2

/-! ### slots forgotten -/
def wipeD (δ : Sv) : List Nat → Sv
  | [] => δ
  | v :: vs => (wipeD δ vs).set v none
theorem wipeD_length (δ : Sv) : ∀ vs : List Nat, (wipeD δ vs).length = δ.length
  | [] => rfl
  | v :: vs => by unfold wipeD; rw [List.length_set, wipeD_length δ vs]
theorem wipe_get (σ : L2.St) : ∀ (vs : List Nat) (i : Nat), i ∉ vs → (wipe σ vs)[i]? = σ[i]?
  | [], i, _ => rfl
  | v :: vs, i, h => by
    unfold wipe
    rw [List.getElem?_set_ne (fun e => h (by rw [e]; exact List.mem_cons_self)), wipe_get σ vs i fun hi => h (List.mem_cons_of_mem _ hi)]
theorem wipe_in (σ : L2.St) : ∀ (vs : List Nat) (i : Nat), i ∈ vs → i < σ.length → (wipe σ vs)[i]? = some none
  | v :: vs, i, h, hl => by
    unfold wipe
    by_cases e : v = i
    · subst e
      rw [List.getElem?_set_self (by rw [wipe_length]; exact hl)]
    · rw [List.getElem?_set_ne e]
      exact wipe_in σ vs i ((List.mem_cons.mp h).resolve_left fun z => e z.symm) hl
theorem wipe_eq {σ τ : L2.St} {vs : List Nat} (hl : σ.length = τ.length) (h : ∀ i, i ∉ vs → σ[i]? = τ[i]?) : wipe σ vs = wipe τ vs := by
  refine List.ext_getElem? fun i => ?_
  by_cases hi : i ∈ vs
  · by_cases hn : i < σ.length
    · rw [wipe_in σ vs i hi hn, wipe_in τ vs i hi (by omega)]
    · rw [List.getElem?_eq_none (by rw [wipe_length]; omega), List.getElem?_eq_none (by rw [wipe_length]; omega)]
  · rw [wipe_get σ vs i hi, wipe_get τ vs i hi, h i hi]
theorem wipe_set {σ : L2.St} {vs : List Nat} {i : Nat} (hi : i ∈ vs) (v : Option V) : wipe (σ.set i v) vs = wipe σ vs :=
  wipe_eq (List.length_set ..) fun j hj => List.getElem?_set_ne fun e => hj (by rw [← e]; exact hi)
theorem wipe_wipe (σ : L2.St) (vs : List Nat) : wipe (wipe σ vs) vs = wipe σ vs := wipe_eq (wipe_length ..) fun j hj => wipe_get σ vs j hj
theorem RelSv.forget {K : PySem.W.Frag} {mg : Str → Option Value} {S : SI} {w : Wd} {δ : Sv} {σ : L2.St} (h : RelSv K mg S w δ σ) (i : Nat) : RelSv K mg S w (δ.set i Option.none) (σ.set i Option.none) := by
  refine ⟨by simp [h.1], fun j e he => ?_⟩
  by_cases hj : i = j
  · subst hj
    by_cases hl : i < δ.length
    · rw [List.getElem?_set_self hl] at he
      cases he
    · rw [List.getElem?_eq_none (by simpa using hl)] at he
      cases he
  · rw [List.getElem?_set_ne hj] at he
    rw [List.getElem?_set_ne hj]
    exact h.2 j e he
theorem RelSv.wipe {K : PySem.W.Frag} {mg : Str → Option Value} {S : SI} {w : Wd} {δ : Sv} {σ : L2.St} (h : RelSv K mg S w δ σ) : ∀ vs : List Nat, RelSv K mg S w (wipeD δ vs) (L2.wipe σ vs)
  | [] => h
  | v :: vs => (RelSv.wipe h vs).forget v

/-! ### targets that are names -/
/-- a target that stores into the slots vs alone, by values and by data -/
def NmTg (K : PySem.W.Frag) (mg : Str → Option Value) (S : SI) (vs : List Nat) (gV : TG) (g : GM) : Prop := ∀ w δ μ d v (σ : L2.St) H Q δ' μ', RelSv K mg S w δ σ → RelM K mg S.T w μ H → RelD K mg w d v → g d δ μ = .nx δ' μ' →
  (∀ σ', RelSv K mg S w δ' σ' → L2.wipe σ' vs = L2.wipe σ vs → μ' = μ → Q σ' H) → gV v σ H Q
def NmTgs (K : PySem.W.Frag) (mg : Str → Option Value) (S : SI) (vs : List Nat) (gV : TGs) (g : GsM) : Prop := ∀ w δ μ d v (σ : L2.St) H Q δ' μ', RelSv K mg S w δ σ → RelM K mg S.T w μ H → RelDs K mg w d v → g d δ μ = .nx δ' μ' →
  (∀ σ', RelSv K mg S w δ' σ' → L2.wipe σ' vs = L2.wipe σ vs → μ' = μ → Q σ' H) → gV v σ H Q
section
variable {K : PySem.W.Frag} {mg : Str → Option Value} {S : SI} {vs : List Nat}
theorem nmTg {i : Nat} (hi : i ∈ vs) : NmTg K mg S vs (gName i) (gNm i) := fun w δ μ d v σ H Q δ' μ' rs rm rd e h => by
  cases e
  exact h _ (rs.set i rd) (wipe_set hi _) rfl
theorem nmTgs_nil : NmTgs K mg S vs gNil gsNil := fun w δ μ d v σ H Q δ' μ' rs rm rd e h => by
  unfold gsNil at e
  split at e
  · cases rd; cases e
    exact ⟨rfl, h _ rs rfl rfl⟩
  · cases e
theorem nmTgs_cons {i : Nat} (hi : i ∈ vs) {gV : TGs} {g : GsM} (h2 : NmTgs K mg S vs gV g) : NmTgs K mg S vs (gCons (gName i) gV) (gsCons (gNm i) g) := fun w δ μ d v σ H Q δ' μ' rs rm rd e h => by
  unfold gsCons at e
  split at e
  · cases rd with
    | @cons d ds u us r1 r2 =>
      refine ⟨u, us, rfl, h2 w _ μ _ _ _ H Q δ' μ' (rs.set i r1) rm r2 e fun σ' a b c => h σ' a (b.trans (wipe_set hi _)) c⟩
  · cases e
theorem nmTg_seq {n : Nat} {gV : TGs} {g : GsM} (h2 : NmTgs K mg S vs gV g) : NmTg K mg S vs (fun v σ H Q => gTup K n gV v σ H Q ∨ gUnl K n gV v σ H Q) (gSeq n g) := fun w δ μ d v σ H Q δ' μ' rs rm rd e h => by
  unfold gSeq at e
  split at e
  · next xs hx =>
    split at e
    · next hl =>
      obtain ⟨a, us, h1, h3, h4⟩ := seqOf_rel rm rd hx
      rcases h3 with h3 | h3
      · exact .inr ⟨a, us, h1, h3, by rw [← h4.length]; exact hl, h2 w δ μ _ _ σ H Q δ' μ' rs rm h4 e h⟩
      · exact .inl ⟨a, us, h1, h3, by rw [← h4.length]; exact hl, h2 w δ μ _ _ σ H Q δ' μ' rs rm h4 e h⟩
    · cases e
  · cases e
end

/-! ### a list made by a comprehension -/
/-- no exception -/
def W0 : WX := fun _ _ _ _ => False
def lcL (g : GM) (mt : TM) (me : EM) (δ : Sv) : List D → Mem → Out (List D)
  | [], μ => .ok [] μ
  | d :: ds, μ => match g d δ μ with
    | .nx δ1 μ1 => match mt δ1 μ1 with
      | .ok true μ2 => match me δ1 μ2 with
        | .ok y μ3 => match lcL g mt me δ ds μ3 with
          | .ok ys μ4 => .ok (y :: ys) μ4
          | _ => .stuck
        | _ => .stuck
      | .ok false μ2 => lcL g mt me δ ds μ2
      | _ => .stuck
    | _ => .stuck
def eLc (mi : IM) (g : GM) (mt : TM) (me : EM) (vs : List Nat) : EM := fun δ μ => (mi δ μ).bind fun items μ1 => match lcL g mt me (wipeD δ vs) items μ1 with
  | .ok ys μ2 => if ys.length ≤ sizeLine then .ok (.lst ys) μ2 else .stuck
  | _ => .stuck
section
variable {X : Cx} {S : SI} {W : WX} {elt tg iter : Expr} {ifs : List Expr} {scope : Scope} {own : List (Str × Nat)} {pos : Pos} {mi : IM} {g : GM} {gV : TG} {mt : TM} {me : EM}
theorem tLc_of {σ : L2.St} {H : Hp} {Q : VK} {vs : List Nat} (hn : NmTg X.K X.mg S vs gV g) (h : tM X.K X.mg S W (RelD X.K X.mg) (eLc mi g mt me vs) σ H Q) : tLc (TIm X S W mi) gV (TTm X S W0 mt) (TEm X S W0 me) vs σ H Q := by
  obtain ⟨w, δ, μ, h⟩ := h
  refine ⟨w, δ, μ, (At.bind h).mono fun J H1 ⟨w1, μ1, items, le1, wk, h1⟩ => ?_⟩
  have rs1 := h1.1
  have rm1 := h1.2.1
  have h3 := h1.2.2
  cases e : lcL g mt me (wipeD δ vs) items μ1 with
  | stuck => rw [e] at h3; exact h3.elim
  | exc x μ' => rw [e] at h3; exact h3.elim
  | ok ys μ2 =>
    rw [e] at h3
    simp only at h3
    split at h3
    case isFalse => exact h3.elim
    case isTrue hsz =>
    intro D hD
    obtain ⟨f1, f2, fg, f3⟩ := rm1.free hD
    refine ⟨fun i m H => m + i = items.length ∧ ∃ (w : Wd) (μ : Mem) (acc : List Kw.D × List V) (zs : List Kw.D), w1.Lw w ∧ w.gr = upd w1.gr D (.lst acc.2) ∧ RelDs X.K X.mg w acc.1 acc.2 ∧ RelM X.K X.mg S.T w μ H ∧ lcL g mt me (wipeD δ vs) (items.drop i) μ = .ok zs μ2 ∧ ys = acc.1 ++ zs, ⟨items.length, rfl, w1.grow D (.lst []), μ1, ([], []), ys, w1.grow_lw D _, rfl, .nil, rm1.grow hD _, e, rfl⟩, ?_⟩
    rintro i m H ⟨hm, w2, μ3, ⟨ds, us⟩, zs, lw, hgr, racc, rm, hz, rfl⟩
    simp only at hgr racc hz
    obtain ⟨k1, k2⟩ := wk w2 μ3 H i lw rm
    have hgD : w2.gr D = some (.lst us) := by rw [hgr, upd_same]
    by_cases hi : i < items.length
    · right
      obtain ⟨go, yl⟩ := k1 _ (List.getElem?_eq_getElem hi)
      rw [List.drop_eq_getElem_cons hi] at hz
      refine ⟨go, fun H' => ∃ (w : Wd) (μ : Mem) (acc : List Kw.D × List V) (zs' : List Kw.D), w1.Lw w ∧ w.gr = upd w1.gr D (.lst acc.2) ∧ RelDs X.K X.mg w acc.1 acc.2 ∧ RelM X.K X.mg S.T w μ H' ∧ lcL g mt me (wipeD δ vs) (items.drop (i + 1)) μ = .ok zs' μ2 ∧ ds ++ zs = acc.1 ++ zs', fun H' hN => ⟨items.length - (i + 1), by omega, by omega, hN⟩, fun x H' hy => ?_⟩
      obtain ⟨w3, le3, rm3, rd⟩ := yl x H' hy
      generalize items[i] = d at hz rd
      unfold lcL at hz
      have lw3 := lw.trans le3.lw
      have rs3 : RelSv X.K X.mg S w3 (wipeD δ vs) (L2.wipe σ vs) := (rs1.wipe vs).monoW lw3
      cases eg : g d (wipeD δ vs) μ3 with
      | nx δ4 μ4 =>
        rw [eg] at hz
        simp only at hz
        refine hn w3 _ μ3 d x _ H' _ δ4 μ4 rs3 rm3 rd eg fun σ' rs4 hw hμ => ?_
        subst hμ
        refine ⟨hw.trans (wipe_wipe σ vs), w3, δ4, μ4, rs4, rm3, ?_⟩
        cases et : mt δ4 μ4 with
        | ok b μ5 =>
          rw [et] at hz
          intro w5 b' H5 le5 rm5 hb
          cases hb
          have hgr5 : w5.gr = upd w1.gr D (.lst us) := by rw [le5.gr, le3.gr]; exact hgr
          cases b with
          | true =>
            simp only at hz
            rw [if_pos rfl]
            refine ⟨w5, δ4, μ5, rs4.mono le5, rm5, ?_⟩
            cases ee : me δ4 μ5 with
            | ok y μ6 =>
              rw [ee] at hz
              simp only at hz
              intro w6 v H6 le6 rm6 ry
              cases el : lcL g mt me (wipeD δ vs) (items.drop (i + 1)) μ6 with
              | ok zs' μ7 =>
                rw [el] at hz
                cases hz
                have hgr6 : w6.gr = upd w1.gr D (.lst us) := by rw [le6.gr]; exact hgr5
                have hg6 : w6.gr D = some (.lst us) := by rw [hgr6, upd_same]
                have racc6 : RelDs X.K X.mg w6 ds us := ((racc.mono le3).mono le5).mono le6
                refine ⟨us, rm6.gr D _ hg6, ?_, w6.grow D (.lst (us ++ [v])), μ6, (ds ++ [y], us ++ [v]), zs', ?_, ?_, ?_, rm6.regrow hg6 rfl _, el, by simp⟩
                · have l1 := racc.length
                  have l2 := hsz
                  simp only [List.length_append, List.length_cons] at l2
                  omega
                · exact ((lw3.trans le5.lw).trans le6.lw).trans (w6.grow_lw D _)
                · show upd w6.gr D _ = _
                  rw [hgr6]
                  funext a
                  by_cases ha : a = D
                  · subst ha; rw [upd_same, upd_same]
                  · rw [upd_ne ha, upd_ne ha, upd_ne ha]
                · exact RelDs.monoW (w6.grow_lw D _) (racc6.append (.one ry))
              | exc x μ' => rw [el] at hz; cases hz
              | stuck => rw [el] at hz; cases hz
            | exc x μ' => rw [ee] at hz; cases hz
            | stuck => rw [ee] at hz; cases hz
          | false =>
            simp only at hz
            rw [if_neg (by decide)]
            exact ⟨w5, μ5, (ds, us), zs, lw3.trans le5.lw, hgr5, (racc.mono le3).mono le5, rm5, hz, rfl⟩
        | exc x μ' => rw [et] at hz; cases hz
        | stuck => rw [et] at hz; cases hz
      | _ => rw [eg] at hz; cases hz
    · left
      refine ⟨k2 (by omega), ?_⟩
      rw [List.drop_eq_nil_of_le (by omega)] at hz
      unfold lcL at hz
      cases hz
      rw [List.append_nil] at h3
      have rdone := rm.done (g := w1.gr) hgD (fun a ha => by rw [hgr, upd_ne ha]) fg (fun _ => nofun)
      refine h3 (w2.done D (.lst us) w1.gr) _ H ⟨lw.n, lw.ρ, fun a o ha => ?_, lw.fr, rfl⟩ rdone (.lst upd_same (RelDs.monoW ?_ racc))
      · have : a ≠ D := fun z => by rw [z, f1] at ha; cases ha
        show upd w2.φ D _ a = _
        rw [upd_ne this]
        exact lw.φ a o ha
      · refine ⟨Nat.le_refl _, fun _ _ => rfl, fun a o ha => ?_, rfl⟩
        have : a ≠ D := fun z => by
          have := (rm.dg D _ hgD).1
          rw [← z, ha] at this; cases this
        show upd w2.φ D _ a = _
        rw [upd_ne this]
        exact ha
theorem pe_lc' (hc : X.calm = true) (hN : X.N.Nodup) (hi : PI X tg iter (TIm X S W mi)) (ok : BlkOk X.N X.env.scope scope own) (hn : NmTg X.K X.mg S (own.map (·.2)) gV g)
    (hg : ∀ (s : Shared) (H : Hp) (C : Addr) (cl : List (Str × Addr)) (fp : List Addr), PG (X.blk s H scope (compEnvC scope cl C X.env) fp) tg gV) (ht : ∀ (s : Shared) (H : Hp) (C : Addr) (cl : List (Str × Addr)) (fp : List Addr), PTs (X.blk s H scope (compEnvC scope cl C X.env) fp) ifs (TTm X S W0 mt))
    (he : ∀ (s : Shared) (H : Hp) (C : Addr) (cl : List (Str × Addr)) (fp : List Addr), PE (X.blk s H scope (compEnvC scope cl C X.env) fp) elt (TEm X S W0 me)) (hs : ∀ x, foldedSetIterable iter X.env x = pure x := by intro _; rfl) :
    PE X (.ListComp elt [⟨tg, iter, ifs, 0⟩] scope pos) (TEm X S W <| eLc mi g mt me (own.map (·.2))) :=
  PEi (pe_lc hc hN hi ok hg ht he hs) fun σ H Q h => tLc_of hn h
/-- name = [..] on one line -/
theorem ps_setLc' {i : Nat} {y : Str} {py spos : Pos} (hc : X.calm = true) (hN : X.N.Nodup) (hy : X.N[i]? = some y) (hyl : X.env.scope.names.lookup y = some .local)
    (hsw : swapsWith (.ListComp elt [⟨tg, iter, ifs, 0⟩] scope pos) (some (.Name y py)) spos.line X.env = pure true) (hi : PI X tg iter (TIm X S W mi)) (ok : BlkOk X.N X.env.scope scope own) (hn : NmTg X.K X.mg S (own.map (·.2)) gV g)
    (hg : ∀ (s : Shared) (H : Hp) (C : Addr) (cl : List (Str × Addr)) (fp : List Addr), PG (X.blk s H scope (compEnvC scope cl C X.env) fp) tg gV) (ht : ∀ (s : Shared) (H : Hp) (C : Addr) (cl : List (Str × Addr)) (fp : List Addr), PTs (X.blk s H scope (compEnvC scope cl C X.env) fp) ifs (TTm X S W0 mt))
    (he : ∀ (s : Shared) (H : Hp) (C : Addr) (cl : List (Str × Addr)) (fp : List Addr), PE (X.blk s H scope (compEnvC scope cl C X.env) fp) elt (TEm X S W0 me)) (hs : ∀ x, foldedSetIterable iter X.env x = pure x := by intro _; rfl) :
    PS X (.Assign [.Name y py] (.ListComp elt [⟨tg, iter, ifs, 0⟩] scope pos) spos) (TSm X S W <| sAsg (eLc mi g mt me (own.map (·.2))) (gNm i)) :=
  PSi (ps_setLc hc hN hy hyl hsw hi ok hg ht he hs) fun D σ H ⟨w, δ, μ, rs, rm, h⟩ => tLc_of hn ⟨w, δ, μ, (At.bindS rs rm h).mono fun v H1 ⟨w1, μ1, d, le, rd, rs1, rm1, q⟩ => q w1 _ H1 (Wd.Le.refl _) rm1 (rs1.set i rd)⟩
def tYesM : TM := fun _ μ => .ok true μ
theorem pts_nil' : PTs X [] (TTm X S W tYesM) := ⟨fun pins s σ H Q I ⟨w, δ, μ, h⟩ => pts_nil.run pins s σ H Q I (h.2.2 w true H (Wd.Le.refl _) h.2.1 rfl)⟩
theorem pts_one' {c : Expr} (h : PT X c (TTm X S W mt)) : PTs X [c] (TTm X S W mt) := pts_one h
end
end Kw

set_option Elab.async false
set_option linter.all false
set_option maxRecDepth 100000
namespace Kw
open PySem PySem.Spec PyProof.Rows L2

/-! ### new lists that change; lists that never change again -/
section
variable (K : PySem.W.Frag) (mg : Str → Option Value) (T : List (Addr × Str))
def rDsM (g : List D → Mem → Option (D × Mem)) : List V → Hp → VK → Prop := fun xs H Q => ∃ w μ ds d μ', RelM K mg T w μ H ∧ RelDs K mg w ds xs ∧ g ds μ = some (d, μ') ∧ ∀ w' v H', w.Le w' → RelM K mg T w' μ' H' → RelD K mg w' d v → Q v H'
end
section
variable {K : PySem.W.Frag} {mg : Str → Option Value} {T : List (Addr × Str)} {w : Wd} {μ : Mem} {H : Hp} {Q : VK}
theorem put_new (r : RelM K mg T w μ H) {o : HO} {b : Ob} (hb : RelOb K mg w b (some o)) (q : ∀ w' v H', w.Le w' → RelM K mg T w' (μ ++ [b]) H' → RelD K mg w' (.loc μ.length) v → Q v H') (ng : b ≠ .gone := by nofun) : ∀ p, H p = none → Q (.ref p) (upd H p o) := fun p hp => by
  have := RelD.loc (K := K) (mg := mg) (w := w.put p) (l := μ.length) (by rw [← r.n]; exact Nat.lt_succ_self _)
  rw [← r.n, Wd.put_at, r.n] at this
  exact q (w.put p) _ _ (w.put_le p) (r.put hp hb ng) this
end
def eAsM (g : List D → Mem → Option (D × Mem)) (ma : AM) : EM := fun δ μ => (ma δ μ).bind fun xs μ1 => oOfM (g xs μ1)
def gNewL : List D → Mem → Option (D × Mem) := fun ds μ => if ds.length ≤ sizeLine then some (.loc μ.length, μ ++ [.lst ds]) else none
def gNewList : List D → Mem → Option (D × Mem)
  | [x], μ => match seqOf μ x with
    | some xs => some (.loc μ.length, μ ++ [.lst xs])
    | none => none
  | _, _ => none
def eNewSl (mx : EM) (ml mh : OM) : EM := fun δ μ => (mx δ μ).bind fun x μ1 => (ml δ μ1).bind fun lo μ2 => (mh δ μ2).bind fun hi μ3 => match lstOf μ3 x with
  | some xs => .ok (.loc μ3.length) (μ3 ++ [.lst (cutD xs lo hi)])
  | none => .stuck
section
variable {X : Cx} {S : SI} {W : WX} {e : Expr} {es : List Expr} {mr : AM} {ma : EM} {ml mh : OM} {pos p p2 : Pos} {lo hi : Option Expr}
theorem pe_AsM {r : List V → Hp → VK → Prop} {g : List D → Mem → Option (D × Mem)} (h : ∀ t, PA X es t → PE X e (tCB r t)) (hr : ∀ x H Q, rDsM X.K X.mg S.T g x H Q → r x H Q) (ha : PA X es (TAm X S W mr)) : PE X e (TEm X S W <| eAsM g mr) :=
  PEi (h _ ha) fun σ H Q ⟨w, δ, μ, h⟩ => ⟨w, δ, μ, (At.bind h).mono fun x H1 ⟨w1, μ1, d, le, rd, h1⟩ => by
    obtain ⟨z, μ2, e, q⟩ := h1.optM
    exact hr _ _ _ ⟨w1, μ1, d, z, μ2, h1.2.1, rd, e, q⟩⟩
theorem pe_newL (h : PA X es (TAm X S W mr)) : PE X (.List es pos) (TEm X S W <| eAsM gNewL mr) :=
  pe_AsM (r := fun xs H1 Q => xs.length ≤ sizeLine ∧ ∀ p, H1 p = none → Q (.ref p) (upd H1 p (.lst xs))) (fun t h => pe_lst h) (fun xs H Q ⟨w, μ, ds, d, μ', r, rs, e, q⟩ => by
    unfold gNewL at e
    split at e
    · next hl =>
      cases e
      exact ⟨by rw [← rs.length]; exact hl, put_new r (.lst rs) q⟩
    · cases e) h
theorem pe_newList (hg : Gl X "list") (hm : X.mg "list" = none) (ha : PA X (e :: es) (TAm X S W mr)) (he : starEach (e :: es) X.env = (false, eval e X.env) :: starEach es X.env := by rfl) (hpl : (backTo pos (starEach es X.env)).any (·.1) = false := by rfl) :
    PE X (.Call (.Name "list" p) (e :: es) [] pos) (TEm X S W <| eAsM gNewList mr) := pe_AsM (fun t h => pe_callTy call_list_of hg hm (by decide +kernel) h (by decide) (by decide) he hpl) (fun xs H Q ⟨w, μ, ds, d, μ', r, rs, e, q⟩ => by
    unfold gNewList at e
    split at e
    · obtain ⟨x, rfl, rx⟩ := rs.one1
      split at e
      · next ys hy =>
        cases e
        obtain ⟨a, vs, rfl, h2, h3⟩ := seqOf_rel r rx hy
        exact ⟨a, vs, rfl, h2, put_new r (.lst h3) q⟩
      · cases e
    · cases e) ha
theorem pe_newSl (he : PE X e (TEm X S W ma)) (hl : PO X lo (TOm X S W ml)) (hu : PO X hi (TOm X S W mh)) : PE X (.Subscript e (.Slice lo hi none p2) pos) (TEm X S W <| eNewSl ma ml mh) :=
  PEi (pe_slice sl_list he hl hu) fun σ H Q ⟨w, δ, μ, h⟩ => ⟨w, δ, μ, (At.bind h).mono fun x H1 ⟨w1, μ1, d, le, rd, h1⟩ => ⟨w1, δ, μ1, (At.bind h1).mono fun l H2 ⟨w2, μ2, l', le2, re, h2⟩ =>
    ⟨w2, δ, μ2, (At.bind h2).mono fun u H3 ⟨w3, μ3, u', le3, ru, h3⟩ => by
      cases re; cases ru
      have rx := (rd.mono le2).mono le3
      have r := h3.2.1
      have h4 := h3.2.2
      split at h4
      · next ys hy =>
        obtain ⟨a, vs, rfl, h5, h6⟩ := lstOf_rel r rx hy
        exact ⟨a, vs, rfl, h5, put_new r (.lst (h6.cutV _ _)) h4⟩
      · exact h4.elim⟩⟩⟩
end

/-- a list, a dict in slot i: it never changes again -/
def sFrz (i : Nat) : SM := fun δ μ => match δ[i]? with
  | some (some (.loc l)) => match μ[l]? with
    | some (.lst xs) => .nx (δ.set i (some (.lst xs))) (μ.set l .gone)
    | _ => .stuck
  | _ => .nx δ μ
def Wd.frz (w : Wd) (p : Addr) (o : HO) : Wd := { w with φ := upd w.φ p o }
section
variable {K : PySem.W.Frag} {mg : Str → Option Value} {T : List (Addr × Str)} {w : Wd} {μ : Mem} {H : Hp}
theorem RelM.freeze (r : RelM K mg T w μ H) {l : Nat} {b : Ob} {o : HO} (hl : μ[l]? = some b) (ng : b ≠ .gone) (ho : H (w.ρ l) = some o) : w.Le (w.frz (w.ρ l) o) ∧ RelM K mg T (w.frz (w.ρ l) o) (μ.set l .gone) H := by
  obtain ⟨hb, hn⟩ := r.ob l b hl
  obtain ⟨n1, n2, n3⟩ := hn ng
  have hlt : l < μ.length := (List.getElem?_eq_some_iff.mp hl).1
  have hc : chg o = true := by rw [ho] at hb; exact hb.chg ng
  have ne : ∀ {a u}, w.φ a = some u → a ≠ w.ρ l := fun {a u} h e => by rw [e, n1] at h; cases h
  have le : w.Le (w.frz (w.ρ l) o) := ⟨Nat.le_refl _, fun _ _ => rfl, fun a u h => by show upd w.φ _ o a = _; rw [upd_ne (ne h)]; exact h, rfl, rfl⟩
  refine ⟨le, ⟨by simp [Wd.frz, r.n], fun a u h => ?_, r.fr, r.gr, fun a u h => ?_, fun a u h => ?_, fun l' b' hb' => ?_, fun l' hl' => ?_, r.inj, r.tabs, fun a ps => ?_⟩⟩
  · have h' : upd w.φ (w.ρ l) o a = some u := h
    by_cases e : a = w.ρ l
    · subst e; rw [upd_same] at h'; cases h'; exact ho
    · rw [upd_ne e] at h'; exact r.φ a u h'
  · have h' : w.fr a = some u := h
    show upd w.φ _ o a = none
    rw [upd_ne (fun e => by rw [e, n2] at h'; cases h')]; exact r.dj a u h
  · have h' : w.gr a = some u := h
    refine ⟨?_, (r.dg a u h).2⟩
    show upd w.φ _ o a = none
    rw [upd_ne (fun e => by rw [e, n3] at h'; cases h')]; exact (r.dg a u h).1
  · by_cases e : l = l'
    · subst e
      rw [List.getElem?_set_self hlt] at hb'
      cases hb'
      exact ⟨by show RelOb K mg _ .gone (H (w.ρ l)); rw [ho]; exact .gone, fun h => absurd rfl h⟩
    · rw [List.getElem?_set_ne e] at hb'
      obtain ⟨k1, k2⟩ := r.ob l' b' hb'
      refine ⟨k1.mono le, fun ng' => ?_⟩
      obtain ⟨m1, m2, m3⟩ := k2 ng'
      refine ⟨?_, m2, m3⟩
      have hlt' : l' < μ.length := (List.getElem?_eq_some_iff.mp hb').1
      show upd w.φ _ o (w.ρ l') = none
      rw [upd_ne (fun z => e (r.inj l l' (by rw [r.n]; exact hlt) (by rw [r.n]; exact hlt') z.symm))]
      exact m1
  · show ∃ u, upd w.φ (w.ρ l) o (w.ρ l') = some u
    by_cases z : w.ρ l' = w.ρ l
    · rw [z, upd_same]; exact ⟨o, rfl⟩
    · rw [upd_ne z]
      by_cases e : l = l'
      · subst e; exact absurd rfl z
      · rw [List.getElem?_set_ne e] at hl'
        exact r.gn l' hl'
  · refine ⟨?_, (r.nt a ps).2⟩
    show upd w.φ _ o a ≠ _
    by_cases e : a = w.ρ l
    · subst e; rw [upd_same]; intro z; cases z; cases hc
    · rw [upd_ne e]; exact (r.nt a ps).1
end
section
variable {X : Cx} {S : SI} {W : WX} {sts : List Stmt} {m : SM}
theorem tS_frz {D : Ends} {σ : L2.St} {H : Hp} {i : Nat} (h : TSm X S W (sSeq (sFrz i) m) D σ H) : TSm X S W m D σ H := by
  obtain ⟨w, δ, μ, rs, rm, h⟩ := h
  unfold sSeq sFrz at h
  split at h
  · next l hl =>
    split at h
    · next xs hx =>
      obtain ⟨vs, h1, h2⟩ := rm.lst hx
      obtain ⟨le, rm'⟩ := rm.freeze hx nofun h1
      obtain ⟨v, hv, rv⟩ := rs.2 i _ hl
      refine ⟨_, _, _, ?_, rm', STo.mono le h⟩
      have hv' : v = .ref (w.ρ l) := by cases rv; rfl
      have rd : RelD X.K X.mg (w.frz (w.ρ l) (.lst vs)) (.lst xs) v := by rw [hv']; exact .lst upd_same (RelDs.mono le h2)
      have := (rs.mono le).set i rd
      rwa [show σ.set i (some v) = σ from by
        refine List.ext_getElem? fun j => ?_
        by_cases e : i = j
        · subst e; rw [List.getElem?_set_self (by have := (List.getElem?_eq_some_iff.mp hv).1; exact this), hv]
        · rw [List.getElem?_set_ne e]] at this
    · exact h.elim
  · exact ⟨w, δ, μ, rs, rm, h⟩
theorem pss_frz (i : Nat) (h : PSs X sts (TSm X S W m)) : PSs X sts (TSm X S W <| sSeq (sFrz i) m) := PSsi h fun D σ H q => tS_frz q
end

/-! ### o[i] = v of a list -/
def gSet : D → D → D → Mem → Option Mem
  | .loc l, .int i, v, μ => match μ[l]? with
    | some (.lst xs) => match ixN xs.length i with
      | some j => some (μ.set l (.lst (xs.set j v)))
      | none => none
    | _ => none
  | _, _, _, _ => none
def gSubM (mo mi : EM) : GM := fun v δ μ => (mo δ μ).bindS δ fun o μ1 => (mi δ μ1).bindS δ fun i μ2 => match gSet o i v μ2 with
  | some μ3 => .nx δ μ3
  | none => .stuck
section
variable {X : Cx} {S : SI} {W : WX} {o i tg : Expr} {mo mi : EM}
theorem pg_sub' (h : ∀ to ti, PE X o to → PE X i ti → PG X tg (L2.gSub to ti rSetL)) (ho : PE X o (TEm X S W mo)) (hi : PE X i (TEm X S W mi)) : PG X tg (TGm X S W <| gSubM mo mi) :=
  PGi (h _ _ ho hi) fun v σ H Q ⟨D, w, δ, μ, d, rs, rm, rd, q, hq⟩ => ⟨w, δ, μ, (At.bindS rs rm q).mono fun x H1 ⟨w1, μ1, x', le1, rx, rs1, rm1, q1⟩ => ⟨w1, δ, μ1, (At.bindS rs1 rm1 q1).mono fun y H2 ⟨w2, μ2, y', le2, ry, rs2, rm2, q2⟩ => by
    split at q2
    · next μ3 e =>
      unfold gSet at e
      split at e
      · next l k v' =>
        cases rx with
        | loc hln =>
        cases ry
        split at e
        · next xs hx =>
          split at e
          · next j hj =>
            cases e
            obtain ⟨vs, h1, h2⟩ := rm2.lst hx
            have hρ := le2.ρ l hln
            refine ⟨w2.ρ l, vs, k, j, by rw [hρ], rfl, h1, by rw [← h2.length]; exact hj, ?_⟩
            exact hq _ _ (q2 w2 σ _ (Wd.Le.refl _) (rm2.write hx nofun (.lst (h2.set j ((rd.mono le1).mono le2)))) rs2)
          · cases e
        · cases e
      · cases e
    · exact q2.elim⟩⟩
end
end Kw

set_option Elab.async false
set_option linter.all false
set_option maxRecDepth 100000
namespace Kw
open PySem PySem.Spec PyProof.Rows L2

/-! ### what a call sees of the caller's places, what it gives back -/
mutual
/-- no place from k on (sc: nothing lent either) -/
def locB (sc : Bool) (k : Nat) : D → Bool
  | .tup xs => locBs sc k xs
  | .lst xs => locBs sc k xs
  | .scr xs => !sc && locBs sc k xs
  | .loc l => decide (l < k)
  | .non => true
  | .bl _ => true
  | .int _ => true
  | .str _ => true
  | .glb _ => true
  | .ty _ => true
  | .ins _ _ xs => locBs sc k xs
  | _ => false
def locBs (sc : Bool) (k : Nat) : List D → Bool
  | [] => true
  | d :: ds => locB sc k d && locBs sc k ds
end
def locBk (sc : Bool) (k : Nat) : List (D × D) → Bool
  | [] => true
  | p :: ps => locB sc k p.2 && locBk sc k ps
def obB (k : Nat) : Ob → Bool
  | .lst xs => locBs false k xs
  | .dct kvs => locBs false k (kvs.map (·.2))
  | .ins _ fs => locBs false k (fs.map (·.2))
  | .gone => true
mutual
def frzW (f : Nat → Option D) : D → Option D
  | .tup xs => match frzWs f xs with
    | some ys => some (.tup ys)
    | none => none
  | .lst xs => match frzWs f xs with
    | some ys => some (.lst ys)
    | none => none
  | .scr xs => match frzWs f xs with
    | some ys => some (.scr ys)
    | none => none
  | .loc l => f l
  | .non => some .non
  | .bl b => some (.bl b)
  | .int i => some (.int i)
  | .str x => some (.str x)
  | .glb x => some (.glb x)
  | .ins c ns xs => match frzWs f xs with
    | some ys => some (.ins c ns ys)
    | none => none
  | .ty n => some (.ty n)
  | _ => none
def frzWs (f : Nat → Option D) : List D → Option (List D)
  | [] => some []
  | d :: ds => match frzW f d, frzWs f ds with
    | some p, some ps => some (p :: ps)
    | _, _ => none
end
def frzL (μ : Mem) : Nat → Nat → Option D
  | 0, _ => none
  | n + 1, l => match μ[l]? with
    | some (.lst xs) => match frzWs (frzL μ n) xs with
      | some ys => some (.scr ys)
      | none => none
    | _ => none
abbrev FM := List D → Mem → Out D
/-- a call that sees the places -/
def callM (m : FM) (ds : List D) (μ : Mem) : Out D := match m ds μ with
  | .ok d μ' => if (locB false μ.length d && (μ'.take μ.length).all (obB μ.length)) = true then .ok d (μ'.take μ.length) else .ok d μ'
  | .exc x μ' => if (locBs false μ.length (x.fs.map (·.2)) && (μ'.take μ.length).all (obB μ.length)) = true then .exc x (μ'.take μ.length) else .exc x μ'
  | .stuck => .stuck
/-- a call that changes no place: it begins with none; places among the arguments are lent -/
def callP (m : FM) (ds : List D) (μ : Mem) : Out D := if locBs false 0 ds = true then match m ds [] with
    | .ok d _ => if locB false 0 d = true then .ok d μ else .stuck
    | .exc x _ => if locBs false 0 (x.fs.map (·.2)) = true then .exc x μ else .stuck
    | .stuck => .stuck
  else match frzWs (frzL μ 4) ds with
    | some es => match m es [] with
      | .ok d _ => if locB true 0 d = true then .ok d μ else .stuck
      | .exc x _ => if locBs true 0 (x.fs.map (·.2)) = true then .exc x μ else .stuck
      | .stuck => .stuck
    | none => .stuck

section
variable {K : PySem.W.Frag} {mg : Str → Option Value} {T : List (Addr × Str)} {w w' : Wd} {μ : Mem} {H : Hp}
/-- from a world into one with the same laid things, the places below k, what was lent (unless sc) -/
structure Into (sc : Bool) (k : Nat) (w w' : Wd) : Prop where
  φ : ∀ a o, w.φ a = some o → w'.φ a = some o
  fr : sc = false → w'.fr = w.fr
  ρ : ∀ l, l < k → l < w.n → l < w'.n ∧ w'.ρ l = w.ρ l
mutual
theorem RelD.into {sc : Bool} {k : Nat} (t : Into sc k w w') : ∀ (d : D) (v : V), RelD K mg w d v → locB sc k d = true → RelD K mg w' d v
  | .non, _, h, _ => by cases h; exact .non
  | .bl b, _, h, _ => by cases h; exact .bl b
  | .int b, _, h, _ => by cases h; exact .int b
  | .str b, _, h, _ => by cases h; exact .str b
  | .ty b, _, h, _ => by cases h; exact .ty b
  | .glb b, _, h, _ => by cases h with | glb e => exact .glb e
  | .ins c ns xs, _, h, hb => by
    cases h with
    | ins g e en rs => exact .ins g (t.φ _ _ e) en (RelDs.into t xs _ rs (by simpa only [locB] using hb))
  | .tup xs, _, h, hb => by
    cases h with
    | tup e rs => exact .tup (sqT_mono t.φ e) (RelDs.into t xs _ rs (by simpa only [locB] using hb))
  | .lst xs, _, h, hb => by
    cases h with
    | lst e rs => exact .lst (t.φ _ _ e) (RelDs.into t xs _ rs (by simpa only [locB] using hb))
  | .scr xs, _, h, hb => by
    cases h with
    | scr e rs =>
      simp only [locB, Bool.and_eq_true, Bool.not_eq_true'] at hb
      refine .scr (e.imp (sqL_mono t.φ) fun e => by rw [t.fr hb.1]; exact e) (RelDs.into t xs _ rs hb.2)
  | .loc l, _, h, hb => by
    cases h with
    | loc hl =>
      obtain ⟨h1, h2⟩ := t.ρ l (by simpa only [locB, decide_eq_true_eq] using hb) hl
      rw [← h2]
      exact .loc h1
  | .dct _, _, _, hb => by cases hb
  | .brd _, _, _, hb => by cases hb
  | .lam, _, _, hb => by cases hb
  | .exc _ _, _, _, hb => by cases hb
theorem RelDs.into {sc : Bool} {k : Nat} (t : Into sc k w w') : ∀ (ds : List D) (vs : List V), RelDs K mg w ds vs → locBs sc k ds = true → RelDs K mg w' ds vs
  | [], _, h, _ => by cases h; exact .nil
  | d :: ds, _, h, hb => by
    cases h with
    | cons r rs =>
      simp only [locBs, Bool.and_eq_true] at hb
      exact .cons (RelD.into t d _ r hb.1) (RelDs.into t ds _ rs hb.2)
end
theorem RelOb.into {k : Nat} (t : Into false k w w') {b : Ob} {o : Option HO} (h : RelOb K mg w b o) (hb : obB k b = true) : RelOb K mg w' b o := by
  cases h with
  | lst r => exact .lst (RelDs.into t _ _ r hb)
  | dct e r => exact .dct e (RelDs.into t _ _ r hb)
  | ins e r => exact .ins e ⟨r.1, RelDs.into t _ _ r.2 hb⟩
  | gone => exact .gone
theorem RelX.into {sc : Bool} {k : Nat} (t : Into sc k w w') {x : Xn} {c : Value} {d : Option Addr} (h : RelX K mg w x c d) (hb : locBs sc k (x.fs.map (·.2)) = true) : RelX K mg w' x c d := by
  obtain ⟨C, dd, gs, a, b, c, d, e⟩ := h
  exact ⟨C, dd, gs, a, b, c, t.φ _ _ d, e.1, RelDs.into t _ _ e.2 hb⟩
/-- the places from k on forgotten -/
def Wd.trunc (w : Wd) (k : Nat) : Wd := { w with n := k }
theorem RelM.trunc {k : Nat} (r : RelM K mg T w μ H) (hk : k ≤ μ.length) (hb : (μ.take k).all (obB k) = true) : RelM K mg T (w.trunc k) (μ.take k) H := by
  have t : Into false k w (w.trunc k) := ⟨fun _ _ h => h, fun _ => rfl, fun l h _ => ⟨h, rfl⟩⟩
  refine ⟨by simp [Wd.trunc]; omega, r.φ, r.fr, r.gr, r.dj, r.dg, fun l b hl => ?_, fun l hl => ?_, fun l l' h h' e => ?_, r.tabs, r.nt⟩
  · have hb' : b ∈ μ.take k := List.mem_of_getElem? hl
    have hlk : l < k := by have := (List.getElem?_eq_some_iff.mp hl).1; simp at this; omega
    rw [List.getElem?_take_of_lt hlk] at hl
    obtain ⟨h1, h2⟩ := r.ob l b hl
    exact ⟨h1.into t (List.all_eq_true.mp hb b hb'), h2⟩
  · have hlk : l < k := by have := (List.getElem?_eq_some_iff.mp hl).1; simp at this; omega
    rw [List.getElem?_take_of_lt hlk] at hl
    exact r.gn l hl
  · have h1 : l < k := h
    have h2 : l' < k := h'
    exact r.inj l l' (by rw [r.n]; omega) (by rw [r.n]; omega) e

/-- the caller's places, as a call that changes none sees them: lent or apart -/
noncomputable def cells (w : Wd) (H : Hp) : Hp := fun a => open Classical in if w.φ a = none ∧ w.fr a = none ∧ w.gr a = none ∧ ∃ l, l < w.n ∧ w.ρ l = a then H a else none
noncomputable def join (f g : Hp) : Hp := fun a => match f a with
  | some o => some o
  | none => g a
theorem cells_some {a : Addr} {o : HO} (h : cells w H a = some o) : w.φ a = none ∧ w.fr a = none ∧ w.gr a = none ∧ H a = some o := by
  unfold cells at h
  split at h
  · next hc => exact ⟨hc.1, hc.2.1, hc.2.2.1, h⟩
  · cases h
theorem cells_nt (r : RelM K mg T w μ H) (a : Addr) (ps : Array Value) : cells w H a ≠ some (.tbl ps) := fun h => by
  unfold cells at h
  split at h
  · next hc =>
    obtain ⟨h1, h2, h3, l, hl, rfl⟩ := hc
    have hl' : l < μ.length := r.n ▸ hl
    obtain ⟨q1, q2⟩ := r.ob l μ[l] (List.getElem?_eq_getElem hl')
    rw [h] at q1
    by_cases ng : μ[l] = .gone
    · obtain ⟨u, hu⟩ := r.gn l (by rw [List.getElem?_eq_getElem hl', ng])
      rw [h1] at hu; cases hu
    · generalize μ[l] = b at q1 ng
      cases q1
      exact ng rfl
  · cases h
theorem cells_ne (r : RelM K mg T w μ H) (a : Addr) (f : Heap → Prop) : cells w H a ≠ some (.ext f) := fun h => by
  unfold cells at h
  split at h
  · next hc =>
    obtain ⟨h1, h2, h3, l, hl, rfl⟩ := hc
    have hl' : l < μ.length := r.n ▸ hl
    obtain ⟨q1, q2⟩ := r.ob l μ[l] (List.getElem?_eq_getElem hl')
    rw [h] at q1
    by_cases ng : μ[l] = .gone
    · obtain ⟨u, hu⟩ := r.gn l (by rw [List.getElem?_eq_getElem hl', ng])
      rw [h1] at hu; cases hu
    · generalize μ[l] = b at q1 ng
      cases q1
      exact ng rfl
  · cases h
theorem join_ne {f g : Hp} (hf : ∀ a k, f a ≠ some (.ext k)) (hg : ∀ a k, g a ≠ some (.ext k)) (a : Addr) (k : Heap → Prop) : join f g a ≠ some (.ext k) := fun h => by
  unfold join at h
  split at h
  · next u hu => cases h; exact hf _ _ hu
  · exact hg _ _ h
theorem join_nt {f g : Hp} (hf : ∀ a ps, f a ≠ some (.tbl ps)) (hg : ∀ a ps, g a ≠ some (.tbl ps)) (a : Addr) (ps : Array Value) : join f g a ≠ some (.tbl ps) := fun h => by
  unfold join at h
  split at h
  · next u hu => cases h; exact hf _ _ hu
  · exact hg _ _ h
theorem cells_at (r : RelM K mg T w μ H) {l : Nat} {b : Ob} (hl : μ[l]? = some b) (ng : b ≠ .gone) : cells w H (w.ρ l) = H (w.ρ l) := by
  have hlt : l < w.n := by rw [r.n]; exact (List.getElem?_eq_some_iff.mp hl).1
  obtain ⟨h1, h2, h3⟩ := (r.ob l b hl).2 ng
  unfold cells
  rw [if_pos ⟨h1, h2, h3, l, hlt, rfl⟩]
noncomputable def Wd.lend (w : Wd) (H : Hp) : Wd := { n := 0, ρ := w.ρ, φ := w.φ, fr := join w.fr (cells w H), gr := w.gr }
noncomputable def Wd.apart (w : Wd) (H : Hp) : Wd := { n := 0, ρ := w.ρ, φ := w.φ, fr := w.fr, gr := join w.gr (cells w H) }
theorem join_some {f g : Hp} {a : Addr} {o : HO} (h : join f g a = some o) : f a = some o ∨ (f a = none ∧ g a = some o) := by
  unfold join at h
  split at h
  · next u hu => cases h; exact .inl hu
  · next hu => exact .inr ⟨hu, h⟩
theorem RelM.lend (r : RelM K mg T w μ H) : RelM K mg T (w.lend H) [] H := by
  refine ⟨rfl, r.φ, fun a o h => ?_, r.gr, fun a o h => ?_, fun a o h => ⟨(r.dg a o h).1, ?_⟩, fun l b h => by simp at h, fun l h => by simp at h, fun l l' h => absurd h (Nat.not_lt_zero _), r.tabs, fun a ps => ⟨(r.nt a ps).1, join_nt (fun a ps => (r.nt a ps).2.1) (cells_nt r) a ps, (r.nt a ps).2.2⟩⟩
  · rcases join_some h with h | ⟨_, h⟩
    · exact r.fr a o h
    · exact (cells_some h).2.2.2
  · rcases join_some h with h | ⟨_, h⟩
    · exact r.dj a o h
    · exact (cells_some h).1
  · have h' : w.gr a = some o := h
    show join w.fr (cells w H) a = none
    unfold join
    rw [(r.dg a o h).2]
    simp only
    unfold cells
    rw [if_neg fun hc => by rw [hc.2.2.1] at h'; cases h']
theorem RelM.apart (r : RelM K mg T w μ H) : RelM K mg T (w.apart H) [] H := by
  refine ⟨rfl, r.φ, r.fr, fun a o h => ?_, r.dj, fun a o h => ?_, fun l b h => by simp at h, fun l h => by simp at h, fun l l' h => absurd h (Nat.not_lt_zero _), r.tabs, fun a ps => ⟨(r.nt a ps).1, (r.nt a ps).2.1, join_nt (fun a ps => (r.nt a ps).2.2.1) (cells_nt r) a ps, join_ne (fun a k => (r.nt a #[]).2.2.2 k) (cells_ne r) a⟩⟩
  · rcases join_some h with h | ⟨_, h⟩
    · exact r.gr a o h
    · exact (cells_some h).2.2.2
  · rcases join_some h with h | ⟨_, h⟩
    · exact r.dg a o h
    · exact ⟨(cells_some h).1, (cells_some h).2.1⟩
/-- back in the caller -/
def Wd.back (w w1 : Wd) : Wd := { w with φ := w1.φ }
theorem RelM.back {w1 : Wd} {μ1 : Mem} {H1 : Hp} (r : RelM K mg T w μ H) (r1 : RelM K mg T w1 μ1 H1) (hφ : ∀ a o, w.φ a = some o → w1.φ a = some o) (hf : ∀ a o, w.fr a = some o → H1 a = some o ∧ w1.φ a = none) (hg : ∀ a o, w.gr a = some o → H1 a = some o ∧ w1.φ a = none)
    (hc : ∀ a o, cells w H a = some o → H1 a = some o ∧ w1.φ a = none) : w.Le (w.back w1) ∧ RelM K mg T (w.back w1) μ H1 := by
  have le : w.Le (w.back w1) := ⟨Nat.le_refl _, fun _ _ => rfl, hφ, rfl, rfl⟩
  refine ⟨le, r.n, r1.φ, fun a o h => (hf a o h).1, fun a o h => (hg a o h).1, fun a o h => (hf a o h).2, fun a o h => ⟨(hg a o h).2, (r.dg a o h).2⟩, fun l b hl => ?_, fun l hl => (r.gn l hl).imp fun u h => hφ _ _ h, r.inj, r1.tabs, fun a ps => ⟨(r1.nt a ps).1, (r.nt a ps).2⟩⟩
  obtain ⟨h1, h2⟩ := r.ob l b hl
  by_cases ng : b = .gone
  · subst ng
    obtain ⟨u, hu⟩ := r.gn l hl
    have := r1.φ _ _ (hφ _ _ hu)
    exact ⟨by show RelOb K mg _ .gone (H1 (w.ρ l)); rw [this]; exact .gone, fun z => absurd rfl z⟩
  · obtain ⟨k1, k2, k3⟩ := h2 ng
    have hcell := cells_at r hl ng
    cases e : H (w.ρ l) with
    | none => rw [e] at h1; cases h1
    | some o =>
      rw [e] at hcell
      obtain ⟨m1, m2⟩ := hc _ _ hcell
      refine ⟨?_, fun _ => ⟨m2, k2, k3⟩⟩
      show RelOb K mg _ b (H1 (w.ρ l))
      rw [m1, ← e]
      exact h1.mono le
theorem join_l {f g : Hp} {a : Addr} {o : HO} (h : f a = some o) : join f g a = some o := by unfold join; rw [h]
theorem join_r {f g : Hp} {a : Addr} {o : HO} (h : f a = none) (h' : g a = some o) : join f g a = some o := by unfold join; rw [h]; exact h'
theorem RelM.back_lend {w1 : Wd} {μ1 : Mem} {H1 : Hp} (r : RelM K mg T w μ H) (le : (w.lend H).Le w1) (r1 : RelM K mg T w1 μ1 H1) : w.Le (w.back w1) ∧ RelM K mg T (w.back w1) μ H1 := by
  have fr1 : ∀ a o, join w.fr (cells w H) a = some o → H1 a = some o ∧ w1.φ a = none := fun a o h => by
    have h' : w1.fr a = some o := by rw [le.fr]; exact h
    exact ⟨r1.fr a o h', r1.dj a o h'⟩
  refine r.back r1 le.φ (fun a o h => fr1 a o (join_l h)) (fun a o h => ?_) fun a o h => fr1 a o (join_r (cells_some h).2.1 h)
  have h' : w1.gr a = some o := by rw [le.gr]; exact h
  exact ⟨r1.gr a o h', (r1.dg a o h').1⟩
theorem RelM.back_apart {w1 : Wd} {μ1 : Mem} {H1 : Hp} (r : RelM K mg T w μ H) (le : (w.apart H).Le w1) (r1 : RelM K mg T w1 μ1 H1) : w.Le (w.back w1) ∧ RelM K mg T (w.back w1) μ H1 := by
  have gr1 : ∀ a o, join w.gr (cells w H) a = some o → H1 a = some o ∧ w1.φ a = none := fun a o h => by
    have h' : w1.gr a = some o := by rw [le.gr]; exact h
    exact ⟨r1.gr a o h', (r1.dg a o h').1⟩
  refine r.back r1 le.φ (fun a o h => ?_) (fun a o h => gr1 a o (join_l h)) fun a o h => gr1 a o (join_r (cells_some h).2.2.1 h)
  have h' : w1.fr a = some o := by rw [le.fr]; exact h
  exact ⟨r1.fr a o h', r1.dj a o h'⟩
mutual
theorem frzW_rel (r : RelM K mg T w μ H) {f : Nat → Option D} (hf : ∀ l d, l < w.n → f l = some d → RelD K mg (w.lend H) d (.ref (w.ρ l))) : ∀ (d : D) (v : V) (e : D), RelD K mg w d v → frzW f d = some e → RelD K mg (w.lend H) e v
  | .non, _, _, rd, h => by cases rd; cases h; exact .non
  | .bl b, _, _, rd, h => by cases rd; cases h; exact .bl b
  | .int i, _, _, rd, h => by cases rd; cases h; exact .int i
  | .str i, _, _, rd, h => by cases rd; cases h; exact .str i
  | .ty i, _, _, rd, h => by cases rd; cases h; exact .ty i
  | .glb i, _, _, rd, h => by cases rd with | glb e => cases h; exact .glb e
  | .ins c ns xs, _, _, rd, h => by
    cases rd with
    | ins g e en rs =>
      simp only [frzW] at h
      split at h
      · next ps hp => cases h; exact .ins g e en (frzWs_rel r hf xs _ _ rs hp)
      · cases h
  | .tup xs, _, _, rd, h => by
    cases rd with
    | tup e rs =>
      simp only [frzW] at h
      split at h
      · next ps hp => cases h; exact .tup e (frzWs_rel r hf xs _ _ rs hp)
      · cases h
  | .lst xs, _, _, rd, h => by
    cases rd with
    | lst e rs =>
      simp only [frzW] at h
      split at h
      · next ps hp => cases h; exact .lst e (frzWs_rel r hf xs _ _ rs hp)
      · cases h
  | .scr xs, _, _, rd, h => by
    cases rd with
    | scr e rs =>
      simp only [frzW] at h
      split at h
      · next ps hp => cases h; exact .scr (e.imp id fun e => join_l e) (frzWs_rel r hf xs _ _ rs hp)
      · cases h
  | .loc l, _, _, rd, h => by
    cases rd with
    | loc hl => exact hf l _ hl h
  | .dct _, _, _, _, h => by cases h
  | .brd _, _, _, _, h => by cases h
  | .lam, _, _, _, h => by cases h
  | .exc _ _, _, _, _, h => by cases h
theorem frzWs_rel (r : RelM K mg T w μ H) {f : Nat → Option D} (hf : ∀ l d, l < w.n → f l = some d → RelD K mg (w.lend H) d (.ref (w.ρ l))) : ∀ (ds : List D) (vs : List V) (es : List D), RelDs K mg w ds vs → frzWs f ds = some es → RelDs K mg (w.lend H) es vs
  | [], _, _, rd, h => by cases rd; cases h; exact .nil
  | d :: ds, _, _, rd, h => by
    cases rd with
    | cons r1 r2 =>
      simp only [frzWs] at h
      split at h
      · next p ps hp hps => cases h; exact .cons (frzW_rel r hf d _ _ r1 hp) (frzWs_rel r hf ds _ _ r2 hps)
      · cases h
end
theorem frzL_rel (r : RelM K mg T w μ H) : ∀ (n l : Nat) (d : D), l < w.n → frzL μ n l = some d → RelD K mg (w.lend H) d (.ref (w.ρ l))
  | 0, l, p, _, h => by cases h
  | n + 1, l, p, _, h => by
    simp only [frzL] at h
    split at h
    · next xs q =>
      obtain ⟨vs, h1, h2⟩ := r.lst q
      split at h
      · next ps hp =>
        cases h
        have hc : cells w H (w.ρ l) = some (.lst vs) := by rw [cells_at r q nofun]; exact h1
        exact .scr (.inr (join_r (cells_some hc).2.1 hc)) (frzWs_rel r (frzL_rel r n) _ _ _ h2 hp)
      · cases h
    · cases h
end

/-! ### what a def promises -/
section
variable (K : PySem.W.Frag) (mg : Str → Option Value) (T : List (Addr × Str))
/-- a call's end, by data -/
def FTo (w : Wd) (Q : VK) (E : XK) (o : Out D) : Prop := o.to (fun d μ' => ∀ w' v H', w.Le w' → RelM K mg T w' μ' H' → RelD K mg w' d v → Q v H') (fun x μ' => ∀ w' cls dd H', w.Le w' → RelM K mg T w' μ' H' → RelX K mg w' x cls dd → E cls dd H')
/-- n arguments; it does what m says -/
def spM (n : Nat) (m : FM) : Sp := fun vs H Q E => vs.length = n ∧ ∃ w μ ds, RelM K mg T w μ H ∧ RelDs K mg w ds vs ∧ FTo K mg T w Q E (m ds μ)
end
section
variable {K : PySem.W.Frag} {mg : Str → Option Value} {T : List (Addr × Str)} {w : Wd} {μ : Mem} {H : Hp} {Q : VK} {E : XK} {m : FM} {ds : List D} {vs : List V} {n : Nat}
theorem sp_callM (hl : vs.length = n) (r : RelM K mg T w μ H) (rs : RelDs K mg w ds vs) (h : FTo K mg T w Q E (callM m ds μ)) : spM K mg T n m vs H Q E := by
  refine ⟨hl, w, μ, ds, r, rs, ?_⟩
  unfold callM at h
  have into : ∀ {w' : Wd}, w.Le w' → Into false μ.length w' (w'.trunc μ.length) := fun le => ⟨fun _ _ h => h, fun _ => rfl, fun l h _ => ⟨h, rfl⟩⟩
  have lt : ∀ {w' : Wd}, w.Le w' → w.Le (w'.trunc μ.length) := fun le => ⟨by rw [r.n]; exact Nat.le_refl _, le.ρ, le.φ, le.fr, le.gr⟩
  cases e : m ds μ with
  | stuck => rw [e] at h; exact h
  | ok d μ' =>
    rw [e] at h
    simp only at h
    split at h
    · next hc =>
      rw [Bool.and_eq_true] at hc
      intro w' v H' le rm rd
      exact h (w'.trunc μ.length) v H' (lt le) (rm.trunc (by rw [← rm.n, ← r.n]; exact le.n) hc.2) (RelD.into (into le) _ _ rd hc.1)
    · exact h
  | exc x μ' =>
    rw [e] at h
    simp only at h
    split at h
    · next hc =>
      rw [Bool.and_eq_true] at hc
      intro w' c dd H' le rm rx
      exact h (w'.trunc μ.length) c dd H' (lt le) (rm.trunc (by rw [← rm.n, ← r.n]; exact le.n) hc.2) (rx.into (into le) hc.1)
    · exact h
theorem sp_callP (hl : vs.length = n) (r : RelM K mg T w μ H) (rs : RelDs K mg w ds vs) (h : FTo K mg T w Q E (callP m ds μ)) : spM K mg T n m vs H Q E := by
  unfold callP at h
  have hρ : ∀ {w1 : Wd} {sc : Bool}, (∀ a o, w1.φ a = some o → (w.back w1).φ a = some o) := fun a o h => h
  split at h
  · next hb =>
    have rs' : RelDs K mg (w.apart H) ds vs := RelDs.into (w := w) (w' := w.apart H) (sc := false) (k := 0) ⟨fun _ _ h => h, fun _ => rfl, fun l h => absurd h (Nat.not_lt_zero _)⟩ _ _ rs hb
    refine ⟨hl, w.apart H, [], ds, r.apart, rs', ?_⟩
    have into : ∀ {w1 : Wd}, (w.apart H).Le w1 → Into false 0 w1 (w.back w1) := fun le => ⟨fun _ _ h => h, fun _ => le.fr.symm, fun l h => absurd h (Nat.not_lt_zero _)⟩
    cases e : m ds [] with
    | stuck => rw [e] at h; exact h
    | ok d μ' =>
      rw [e] at h
      simp only at h
      split at h
      · next hc =>
        intro w1 v H1 le rm rd
        obtain ⟨le2, rm2⟩ := r.back_apart le rm
        exact h (w.back w1) v H1 le2 rm2 (RelD.into (into le) _ _ rd hc)
      · exact h.elim
    | exc x μ' =>
      rw [e] at h
      simp only at h
      split at h
      · next hc =>
        intro w1 c dd H1 le rm rx
        obtain ⟨le2, rm2⟩ := r.back_apart le rm
        exact h (w.back w1) c dd H1 le2 rm2 (rx.into (into le) hc)
      · exact h.elim
  · split at h
    · next es he =>
      refine ⟨hl, w.lend H, [], es, r.lend, frzWs_rel r (frzL_rel r 4) _ _ _ rs he, ?_⟩
      have into : ∀ {w1 : Wd}, Into true 0 w1 (w.back w1) := ⟨fun _ _ h => h, (fun h => nomatch h), fun l h => absurd h (Nat.not_lt_zero _)⟩
      cases e : m es [] with
      | stuck => rw [e] at h; exact h
      | ok d μ' =>
        rw [e] at h
        simp only at h
        split at h
        · next hc =>
          intro w1 v H1 le rm rd
          obtain ⟨le2, rm2⟩ := r.back_lend le rm
          exact h (w.back w1) v H1 le2 rm2 (RelD.into into _ _ rd hc)
        · exact h.elim
      | exc x μ' =>
        rw [e] at h
        simp only at h
        split at h
        · next hc =>
          intro w1 c dd H1 le rm rx
          obtain ⟨le2, rm2⟩ := r.back_lend le rm
          exact h (w.back w1) c dd H1 le2 rm2 (rx.into into hc)
        · exact h.elim
    · exact h.elim
end
end Kw

set_option Elab.async false
set_option linter.all false
set_option maxRecDepth 100000
namespace Kw
open PySem PySem.Spec PyProof.Rows L2

/-! ### a def, where no guard stands above (repr of lists asks it) -/
structure FnG (P : Program) (w : World) (K : PySem.W.Frag) (mg : Str → Option Value) (base : Heap) (k : Nat) (f : Addr) (fd : FuncData) (ps : List Str) (sp : Sp) : Prop where
  len : ∀ vs H Q E, sp vs H Q E → vs.length = ps.length
  run : ∀ (A : Around) (outer : List Env) (s : Shared) (H : Hp) (args : Args) (us : List Value) (vs : List V) (Q : VK) (E : XK), Room k A → A.guards = some [] → Env0 P w K mg base A outer s H → BindsTo s fd args (ps.zip us) → Vals vs us → sp vs H Q E →
    codeAny (model P w) A (.call (.ref f) args) (CR (L2.CX P w) outer P w H s Q E) s
theorem FnG.mono {P : Program} {w : World} {K : PySem.W.Frag} {mg : Str → Option Value} {base : Heap} {j k : Nat} {f : Addr} {fd : FuncData} {ps : List Str} {sp : Sp} (F : FnG P w K mg base j f fd ps sp) (h : j ≤ k) : FnG P w K mg base k f fd ps sp :=
  ⟨F.len, fun A outer s H args us vs Q E hr => F.run A outer s H args us vs Q E (hr.mono h)⟩
section
variable {X : Cx} {k : Nat} {f : Addr} {fd : FuncData} {ps ks : List Str} {sp : Sp} {W : WX} {x : Str} {p pos : Pos} {e : Expr} {es : List Expr} {kws : List Keyword} {t tk : TA}
theorem run_G {pins : List (Addr × Obj)} {σ : L2.St} {H : Hp} {s : Shared} {Q : VK} {us : List Value} {vs : List V} {args : Args} (F : FnG X.prog X.w X.K X.mg X.base k f fd ps sp) (hr : Room k X.A) (hgd : X.A.guards = some []) (hx : PassesAt (L2.CX X.prog X.w) X σ (WE W σ))
    (I : Inv X pins σ H s) (hb : BindsTo s fd args (ps.zip us)) (r : Vals vs us) (h : sp vs H Q (WE W σ)) : codeAny (model X.prog X.w) X.A (.call (.ref f) args) (fun r s' => match r with
      | .ok (.ret u) => EP X pins σ Q u s'
      | .ok _ => False
      | .error e => X.xe e s') s := by
  refine codeAny_mono (F.run X.A X.stack s H args us vs Q _ hr hgd I.env0 hb r h) fun r s' hq => ?_
  cases r with
  | error e => exact hx pins H s e s' I hq
  | ok fl =>
    cases fl with
    | ret u => exact I.after hq
    | next => exact False.elim hq
    | brk => exact False.elim hq
    | cont => exact False.elim hq
theorem call_of {M : Model} {A : Around} {f : Value} {us : List Value} {kw : List (Str × Value)} {Q E : Value → Shared → Prop} {s : Shared} (h : codeAny M A (.call f ⟨us, kw⟩) (fun r s' => match r with
      | .ok (.ret u) => Q u s'
      | .ok _ => False
      | .error e => E e s') s) : wpAny M A (call f us kw) Q E s :=
  wpAny_call (codeAny_mono h fun r s' hq => by
    cases r with
    | error e => exact hq
    | ok fl => cases fl <;> first | exact hq | exact False.elim hq)
theorem pe_G (F : FnG X.prog X.w X.K X.mg X.base k f fd ps sp) (hr : Room k X.A) (hgd : X.A.guards = some []) (hg : Gl X x) (hm : X.mg x = some (.ref f)) (hk : PySem.W.keepIn X.K (.ref f) = true) (hb : Binds X.K fd ps []) (hx : ∀ σ, PassesAt (L2.CX X.prog X.w) X σ (WE W σ))
    (ha : PA X (e :: es) t) (hdb : (x == ("__debug__" : Str)) = false := by decide) (he : starEach (e :: es) X.env = (false, eval e X.env) :: starEach es X.env := by rfl) (hpl : (backTo pos (starEach es X.env)).any (·.1) = false := by rfl) :
    PE X (.Call (.Name x p) (e :: es) [] pos) (fun σ H Q => t σ H fun vs H1 => sp vs H1 Q (WE W σ)) := by
  refine ⟨fun pins s σ H Q I h => ?_⟩
  refine wpAny_Call_Name_kw (ld_glob I hg hm ?_ hdb)
  refine PySem.W.callWith_K (h₀ := X.base) I.ok.mod.kin hk (thn (ha.run pos pins s σ H _ I h) fun us s1 ⟨vs, H1, I1, r, q⟩ => ⟨I1.kIn, ?_⟩) he hpl
  have hl : (us ++ []).length = ps.length := by rw [List.append_nil, ← r.length]; exact F.len _ _ _ _ q
  have hb' := hb s1 us I1.kIn hl
  rw [List.append_nil] at hb'
  exact call_of (run_G F hr hgd (hx σ) I1 hb' r q)
theorem pe_G0 (F : FnG X.prog X.w X.K X.mg X.base k f fd ps sp) (hr : Room k X.A) (hgd : X.A.guards = some []) (hg : Gl X x) (hm : X.mg x = some (.ref f)) (hk : PySem.W.keepIn X.K (.ref f) = true) (hb : Binds X.K fd ps []) (hx : ∀ σ, PassesAt (L2.CX X.prog X.w) X σ (WE W σ))
    (hdb : (x == ("__debug__" : Str)) = false := by decide) : PE X (.Call (.Name x p) [] [] pos) (fun σ H Q => sp [] H Q (WE W σ)) := by
  refine ⟨fun pins s σ H Q I h => ?_⟩
  refine wpAny_Call_Name_kw (ld_glob I hg hm ?_ hdb)
  have hl : (([] : List Value) ++ []).length = ps.length := F.len _ _ _ _ h
  exact PySem.W.callWith_K0 I.kIn hk (call_of (run_G F hr hgd (hx σ) I (hb s [] I.kIn hl) .nil h))
theorem pe_GK {g : List Value → List Value → List Value} {gV : List V → List V → List V} (F : FnG X.prog X.w X.K X.mg X.base k f fd ps sp) (hr : Room k X.A) (hgd : X.A.guards = some []) (hg : Gl X x) (hm : X.mg x = some (.ref f)) (hk : PySem.W.keepIn X.K (.ref f) = true) (hb : KBinds X.K fd ps ks g gV) (hx : ∀ σ, PassesAt (L2.CX X.prog X.w) X σ (WE W σ))
    (ha : PA X (e :: es) t) (hkw : PK X kws tk) (hall : (backToKw pos (keywordEach kws X.env)).all (·.1.isSome) = true := by rfl) (hks : (backToKw pos (keywordEach kws X.env)).filterMap (·.1) = ks := by rfl)
    (hdb : (x == ("__debug__" : Str)) = false := by decide) (he : starEach (e :: es) X.env = (false, eval e X.env) :: starEach es X.env := by rfl)
    (hpl : ((backTo pos (starEach (e :: es) X.env)).any (·.1) || (backToKw pos (keywordEach kws X.env)).any (·.1.isNone)) = false := by rfl) :
    PE X (.Call (.Name x p) (e :: es) kws pos) (fun σ H Q => t σ H fun vs H1 => tk σ H1 fun zs H2 => sp (gV vs zs) H2 Q (WE W σ)) := by
  refine ⟨fun pins s σ H Q I h => ?_⟩
  refine wpAny_Call_Name_kw (ld_glob I hg hm ?_ hdb)
  refine PySem.W.callWith_KW (h₀ := X.base) I.ok.mod.kin hk hall (thn (ha.run pos pins s σ H _ I h) fun us s1 ⟨vs, H1, I1, r, q⟩ => ?_) hpl he
  refine thn (hkw.run pos pins s1 σ H1 _ I1 q) fun ws s2 ⟨zs, H2, I2, rz, q2⟩ => ⟨I2.kIn, ?_⟩
  rw [hks]
  have r2 := hb.rel r rz
  have hl : (g us ws).length = ps.length := by rw [← r2.length]; exact F.len _ _ _ _ q2
  exact call_of (run_G F hr hgd (hx σ) I2 (hb.to s2 us ws I2.kIn hl) r2 q2)
end

/-! ### calls, by data -/
def eCallM (m : FM) (ma : AM) : EM := fun δ μ => (ma δ μ).bind fun ds μ1 => callM m ds μ1
def eCallP (m : FM) (ma : AM) : EM := fun δ μ => (ma δ μ).bind fun ds μ1 => callP m ds μ1
/-- f(.., k = v): g puts the values in the parameters' order -/
def eCallKP (m : FM) (g : List D → List D → List D) (ma mk : AM) : EM := fun δ μ => (ma δ μ).bind fun ds μ1 => (mk δ μ1).bind fun es μ2 => callP m (g ds es) μ2
def eCallKM (m : FM) (g : List D → List D → List D) (ma mk : AM) : EM := fun δ μ => (ma δ μ).bind fun ds μ1 => (mk δ μ1).bind fun es μ2 => callM m (g ds es) μ2
section
variable {X : Cx} {S : SI} {W : WX} {k n : Nat} {f : Addr} {fd : FuncData} {ps ks : List Str} {x : Str} {p pos kpos : Pos} {e : Expr} {es : List Expr} {kws : List Keyword} {mr mk : AM} {m : FM} {nm : Option Str} {ma : EM}
theorem At.fto {K : PySem.W.Frag} {mg : Str → Option Value} {w : Wd} {δ : Sv} {μ : Mem} {σ : L2.St} {H : Hp} {Q : VK} {o : Out D} (h : At K mg S W (RelD K mg) σ Q w δ μ H o) : FTo K mg S.T w Q (WE W σ) o := h.2.2
theorem pe_callM {e' : Expr} (h : ∀ t, PA X es t → PE X e' (fun σ H Q => t σ H fun vs H1 => spM X.K X.mg S.T n m vs H1 Q (WE W σ))) (hl : es.length = n) (ha : PA X es (TAm X S W mr)) (hn : ∀ δ μ ds μ', mr δ μ = .ok ds μ' → ds.length = n) : PE X e' (TEm X S W <| eCallM m mr) :=
  PEi (h _ ha) fun σ H Q ⟨w, δ, μ, h⟩ => ⟨w, δ, μ, by
    refine ⟨h.1, h.2.1, ?_⟩
    have h3 := h.2.2
    unfold eCallM at h3
    cases e : mr δ μ with
    | stuck => rw [e] at h3; exact h3.elim
    | exc x μ' => rw [e] at h3; exact h3
    | ok ds μ' =>
      rw [e] at h3
      intro w' vs H' le rm rs
      refine sp_callM (by rw [← rs.length]; exact hn _ _ _ _ e) rm rs ?_
      exact Out.to_mono h3 (fun d μ2 q w2 v2 H2 le2 => q w2 v2 H2 (le.trans le2)) fun x μ2 q w2 c d H2 le2 => q w2 c d H2 (le.trans le2)⟩
theorem pe_callP {e' : Expr} (h : ∀ t, PA X es t → PE X e' (fun σ H Q => t σ H fun vs H1 => spM X.K X.mg S.T n m vs H1 Q (WE W σ))) (hl : es.length = n) (ha : PA X es (TAm X S W mr)) (hn : ∀ δ μ ds μ', mr δ μ = .ok ds μ' → ds.length = n) : PE X e' (TEm X S W <| eCallP m mr) :=
  PEi (h _ ha) fun σ H Q ⟨w, δ, μ, h⟩ => ⟨w, δ, μ, by
    refine ⟨h.1, h.2.1, ?_⟩
    have h3 := h.2.2
    unfold eCallP at h3
    cases e : mr δ μ with
    | stuck => rw [e] at h3; exact h3.elim
    | exc x μ' => rw [e] at h3; exact h3
    | ok ds μ' =>
      rw [e] at h3
      intro w' vs H' le rm rs
      refine sp_callP (by rw [← rs.length]; exact hn _ _ _ _ e) rm rs ?_
      exact Out.to_mono h3 (fun d μ2 q w2 v2 H2 le2 => q w2 v2 H2 (le.trans le2)) fun x μ2 q w2 c d H2 le2 => q w2 c d H2 (le.trans le2)⟩
theorem aNil_len : ∀ δ μ ds μ', aNil δ μ = .ok ds μ' → ds.length = 0 := fun δ μ ds μ' h => by cases h; rfl
theorem aCons_len {n : Nat} (h : ∀ δ μ ds μ', mr δ μ = .ok ds μ' → ds.length = n) : ∀ δ μ ds μ', aCons ma mr δ μ = .ok ds μ' → ds.length = n + 1 := fun δ μ ds μ' e => by
  unfold aCons at e
  cases e1 : ma δ μ with
  | ok x μ1 =>
    rw [e1] at e
    cases e2 : mr δ μ1 with
    | ok xs μ2 =>
      have e' : (mr δ μ1).bind (fun xs μ2 => Out.ok (x :: xs) μ2) = .ok ds μ' := e
      rw [e2] at e'
      cases e'
      rw [List.length_cons, h _ _ _ _ e2]
    | _ =>
      have e' : (mr δ μ1).bind (fun xs μ2 => Out.ok (x :: xs) μ2) = .ok ds μ' := e
      rw [e2] at e'
      cases e'
  | _ => rw [e1] at e; cases e
theorem pk_nil' : PK X [] (TAm X S W aNil) := PKi pk_nil fun σ H Q ⟨w, δ, μ, h⟩ => h.2.2 w [] H (Wd.Le.refl _) h.2.1 .nil
theorem pk_cons' (ha : PE X e (TEm X S W ma)) (hr : PK X kws (TAm X S W mr)) : PK X (⟨nm, e, kpos⟩ :: kws) (TAm X S W <| aCons ma mr) :=
  PKi (pk_cons ha hr) fun σ H Q ⟨w, δ, μ, h⟩ => ⟨w, δ, μ, (At.bind h).mono fun x H1 ⟨w1, μ1, d, le, rd, h1⟩ => ⟨w1, δ, μ1, (At.bind h1).mono fun y H2 ⟨w2, μ2, f, le2, re, h2⟩ =>
    h2.2.2 w2 (x :: y) H2 (Wd.Le.refl _) h2.2.1 (.cons (rd.mono le2) re)⟩⟩
/-- how keywords bind, by data too -/
structure KB (n m : Nat) (gV : List V → List V → List V) (g : List D → List D → List D) : Prop where
  rel : ∀ {K : PySem.W.Frag} {mg : Str → Option Value} {w : Wd} {ds es : List D} {vs us : List V}, RelDs K mg w ds vs → RelDs K mg w es us → ds.length = n → es.length = m → RelDs K mg w (g ds es) (gV vs us)
theorem pe_callKP {e' : Expr} {g : List D → List D → List D} {gV : List V → List V → List V} {a b : Nat} (h : ∀ t tk, PA X es t → PK X kws tk → PE X e' (fun σ H Q => t σ H fun vs H1 => tk σ H1 fun zs H2 => spM X.K X.mg S.T n m (gV vs zs) H2 Q (WE W σ))) (hl : ∀ ds es, ds.length = a → es.length = b → (g ds es).length = n) (kb : KB a b gV g)
    (ha : PA X es (TAm X S W mr)) (hk : PK X kws (TAm X S W mk)) (hn : ∀ δ μ ds μ', mr δ μ = .ok ds μ' → ds.length = a) (hn2 : ∀ δ μ ds μ', mk δ μ = .ok ds μ' → ds.length = b) : PE X e' (TEm X S W <| eCallKP m g mr mk) :=
  PEi (h _ _ ha hk) fun σ H Q ⟨w, δ, μ, h⟩ => ⟨w, δ, μ, by
    refine ⟨h.1, h.2.1, ?_⟩
    have h3 := h.2.2
    unfold eCallKP at h3
    cases e : mr δ μ with
    | stuck => rw [e] at h3; exact h3.elim
    | exc x μ' => rw [e] at h3; exact h3
    | ok ds μ' =>
      rw [e] at h3
      intro w' vs H' le rm rs
      refine ⟨w', δ, μ', h.1.mono le, rm, ?_⟩
      have h4 : ((mk δ μ').bind fun es μ2 => callP m (g ds es) μ2).to _ _ := h3
      cases e2 : mk δ μ' with
      | stuck => rw [e2] at h4; exact h4.elim
      | exc x μ2 => rw [e2] at h4; exact fun w2 c d H2 le2 => h4 w2 c d H2 (le.trans le2)
      | ok es μ2 =>
        rw [e2] at h4
        intro w2 us H2 le2 rm2 rs2
        have rr := kb.rel (rs.mono le2) rs2 (hn _ _ _ _ e) (hn2 _ _ _ _ e2)
        refine sp_callP (by rw [← rr.length]; exact hl _ _ (hn _ _ _ _ e) (hn2 _ _ _ _ e2)) rm2 rr ?_
        exact Out.to_mono h4 (fun d μ2 q w3 v2 H2 le3 => q w3 v2 H2 ((le.trans le2).trans le3)) fun x μ2 q w3 c d H2 le3 => q w3 c d H2 ((le.trans le2).trans le3)⟩
end

/-! ### a def does what its body says -/
def bodyM (N : Nat) (m : SM) : FM := fun ds μ => match m (ds.map some ++ List.replicate (N - ds.length) none) μ with
  | .ret d μ' => .ok d μ'
  | .nx _ μ' => .ok .non μ'
  | .exc x _ μ' => .exc x μ'
  | _ => .stuck
theorem RelSv.start {K : PySem.W.Frag} {mg : Str → Option Value} {S : SI} {w : Wd} {ds : List D} {vs : List V} (N : List Str) (h : RelDs K mg w ds vs) : RelSv K mg S w (ds.map some ++ List.replicate (N.length - ds.length) none) (start N vs) := by
  refine ⟨by unfold L2.start; simp [h.length], fun i d hd => ?_⟩
  by_cases hi : i < ds.length
  · rw [List.getElem?_append_left (by simpa using hi), List.getElem?_map] at hd
    cases e : ds[i]? with
    | none => rw [e] at hd; cases hd
    | some d' =>
      rw [e] at hd
      cases hd
      obtain ⟨v, hv, rv⟩ := h.get e
      refine ⟨v, ?_, .of rv⟩
      unfold L2.start
      rw [List.getElem?_append_left (by rw [List.length_map, ← h.length]; exact hi), List.getElem?_map, hv]
      rfl
  · rw [List.getElem?_append_right (by simpa using hi), List.getElem?_replicate] at hd
    split at hd <;> cases hd
section
variable {P : Program} {w : World} {K : PySem.W.Frag} {mg : Str → Option Value} {base : Heap} {x qual : Str} {params : Arguments} {body : List Stmt} {scope : Scope} {dvs : List V} {kws : List (Str × V)} {f : Addr} {fd : FuncData}
theorem fnG_of {T : List (Addr × Str)} {N ps : List Str} {k n : Nat} {m : SM} (F : FunD K x qual params body scope dvs kws f fd) (S : FnScope N ps scope) (hn : ps.length = n)
    (hbody : ∀ (cdv : Value) (A : Around) (outer : List Env) (s : Shared) (H : Hp) (E : XK), Room k (A.deeper (envOfC qual scope s.heap.objs.size f cdv)) → (A.deeper (envOfC qual scope s.heap.objs.size f cdv)).guards = some [] → Takes (cxOf (L2.CX P w) P w K mg base N qual scope f cdv A outer s H E) (fun c d _ H => E c d H) →
      PSs (cxOf (L2.CX P w) P w K mg base N qual scope f cdv A outer s H E) body (tS K mg { T := T } (fun c d _ H => E c d H) m)) : FnG P w K mg base (k + 1) f fd ps (spM K mg T n (bodyM N.length m)) := by
  obtain ⟨oc, od, dV, kV, doc, pm, an, cdv, ct, osl, rfl, lk, hcd, _, _⟩ := F.ex
  have len : ∀ vs H Q E, spM K mg T n (bodyM N.length m) vs H Q E → vs.length = ps.length := fun vs H Q E h => h.1.trans hn.symm
  refine ⟨len, fun A outer s H args us vs Q E hr hgd e0 hb r hsp => ?_⟩
  have hl := len _ _ _ _ hsp
  have KX : K.In s.heap := e0.mod.kin.keeps fun b o e => (e0.bs b o e).1
  have lim : s.heap.NoLimit := e0.mod.nolimit.keeps fun b o e => (e0.bs b o e).1
  have hkind : ∀ y ∈ ps.zip us, scope.names.lookup y.1 = some .local ∨ (scope.names.lookup y.1 = some .cell ∧ ((cellsFrom (s.heap.objs.size + 1) scope.names []).lookup y.1).isSome = true) := fun ⟨n, v⟩ hy => by
    rcases S.par n (List.of_mem_zip hy).1 with q | q
    · exact .inl q
    · exact .inr ⟨q, PySem.W.cellsFrom_some _ _ _ (.inl q)⟩
  refine codeAny_call_function hr.depth (KX _ _ lk) rfl S.co S.gen rfl (PySem.W.codeRec_of KX hcd) (hb _ _ _ _ ?_)
  refine wpAny_newFunctionEnv_cells S.kind hkind fun env he s1 x => ?_
  subst he
  refine ⟨lim.keeps x.toInCall.keep, codeAny_func ?_⟩
  have ht := hbody cdv A outer s H E (hr.deeper _) hgd (takes_of rfl rfl rfl rfl)
  have I : Inv (cxOf (L2.CX P w) P w K mg base N qual scope f cdv A outer s H E) [] (start N vs) H s1 := inv_start S hr.hd e0 hl r x
  obtain ⟨_, wd, μ, ds, rm, rs, hm⟩ := hsp
  have hq : tS K mg { T := T } (fun c d _ H => E c d H) m { nx := fun _ H' => Q .non H', rt := Q } (start N vs) H := by
    refine ⟨wd, _, μ, RelSv.start N rs, rm, ?_⟩
    unfold bodyM at hm
    generalize m (ds.map some ++ List.replicate (N.length - ds.length) none) μ = o at hm ⊢
    cases o with
    | ret d μ' => exact hm
    | nx δ μ' => exact fun w' σ H' le rm' _ => hm w' .non H' le rm' .non
    | exc x δ μ' => exact fun w' c d σ H' le rm' _ rx => hm w' c d H' le rm' rx
    | bk δ μ' => exact hm.elim
    | ct δ μ' => exact hm.elim
    | stuck => exact hm.elim
  refine wpAny_mono (ht.run [] s1 (start N vs) H _ I hq) (fun fl s' hs => ?_) fun e s' hs => hs
  have fin : ∀ {σ' : L2.St} {H' : Hp} {v : V} {u : Value}, Inv (cxOf (L2.CX P w) P w K mg base N qual scope f cdv A outer s H E) [] σ' H' s' → RelV v u → Q v H' → CE outer P w H s Q u s' :=
    fun {σ' H' v u} J rv q => ⟨v, H', J.os, J.bare, J.base, J.hok, rv, q⟩
  cases fl with
  | ret u =>
    obtain ⟨v, σ', H', J, rv, q⟩ := hs
    exact fin J rv q
  | next =>
    obtain ⟨σ', H', J, q⟩ := hs
    exact fin (v := V.non) (u := Value.none) J rfl q
  | brk =>
    obtain ⟨_, _, _, q⟩ := hs
    exact False.elim q
  | cont =>
    obtain ⟨_, _, _, q⟩ := hs
    exact False.elim q
end
end Kw

set_option Elab.async false
set_option linter.all false
set_option maxRecDepth 100000
namespace Kw
open PySem PySem.Spec PyProof.Rows L2 LamX

/-! ### the law's call, where no guard stands above -/
/-- the script as it was laid -/
abbrev scrO (vs : List Value) : Obj := { cls := .type "list", data := .seq vs.toArray }
abbrev tabO : Obj := { cls := .none, data := .fields #[] }
open Classical in
noncomputable def H0 (K : PySem.W.Frag) (ts : List Addr) (a : Addr) (vs : List Value) (xs : List V) : Hp := fun b =>
  if b ∈ ts then some (.tbl #[]) else if b = a ∧ K.lookup a = none then some (.frz (scrO vs) (.lst xs)) else none
section
variable {P : Program} {w : World} {K : PySem.W.Frag} {mg mb : Str → Option Value} {k : Nat} {fa a : Addr} {cs : List (Addr × Addr)} {fd : FuncData} {x : Str} {sp : Sp} {s₁ : Shared} {vs : List Value} {ns : List Int}
theorem H0_tab {ts : List Addr} {xs : List V} {b : Addr} (h : b ∈ ts) : H0 K ts a vs xs b = some (.tbl #[]) := if_pos h
theorem H0_some {ts : List Addr} {xs : List V} {b : Addr} {u : HO} (h : H0 K ts a vs xs b = some u) : (b ∈ ts ∧ u = .tbl #[]) ∨ (b ∉ ts ∧ b = a ∧ K.lookup a = none ∧ u = .frz (scrO vs) (.lst xs)) := by
  unfold H0 at h
  split at h
  · next hb => cases h; exact .inl ⟨hb, rfl⟩
  · next hb =>
    split at h
    · next hc => cases h; exact .inr ⟨hb, hc.1, hc.2, rfl⟩
    · cases h
theorem law_callG (KX : K.In s₁.heap) (hns : s₁.heap.Ns mainGlobals mg) (hb : s₁.heap.Ns builtinsNs mb) (hbb : ∀ x : Str, x ≠ "__name__" → mb x = bootBuiltins x) (hlim : s₁.heap.NoLimit) (hg : s₁.gens = #[])
    (hT : ∀ p ∈ cs, s₁.heap.get? p.2 = some tabO) (nT : ∀ p ∈ cs, K.lookup p.2 = none) (C : ∀ p ∈ cs, PySem.W.CodeHd s₁.heap p.1 p.2)
    (hbm : ∃ (bm : Addr) (ob : Obj), mg "__builtins__" = some (.ref bm) ∧ bm ≠ builtinsNs ∧ s₁.heap.get? bm = some ob ∧ ob.cls = .type "module" ∧ ob.dict = some builtinsNs ∧ ob.data = .plain)
    (ha : s₁.heap.get? a = some (scrO vs)) (hi : IntsAre vs ns) (hl : ns.length ≤ sizeLine) (hr : Room k callerA)
    (F : ∀ base : Heap, K.In base → base.Ns mainGlobals mg → (∀ p ∈ cs, TabB base mg p.1 p.2) → FnG P w K mg base k fa fd [x] sp) (hbind : ∀ (s : Shared) (u : Value), BindsTo s fd ⟨[u], []⟩ [(x, u)])
    (hsp : ∀ H : Hp, (∀ p ∈ cs, H p.2 = some (.tbl #[])) → SqL K H a (ns.map V.int) → sp [.ref a] H (fun v _ => v = .bl true) fun _ _ _ => False) :
    codeAny (model P w) callerA (.call (.ref fa) ⟨[.ref a], []⟩) (fun r s' => r = .ok (.ret (.bool true)) ∧ OldK s₁.heap s'.heap ∧ s'.os = s₁.os ∧ AllBare s'.gens) s₁ := by
  obtain ⟨H, eH⟩ : ∃ H : Hp, H = H0 K (cs.map (·.2)) a vs (ns.map V.int) := ⟨_, rfl⟩
  have rv := vals_ints hi
  have isT : ∀ b : Addr, b ∈ cs.map (·.2) → s₁.heap.get? b = some tabO := fun b h => by
    obtain ⟨p, hp, e⟩ := List.mem_map.mp h
    rw [← e]; exact hT p hp
  have hH : ∀ p ∈ cs, H p.2 = some (.tbl #[]) := fun p hp => by rw [eH]; exact H0_tab (List.mem_map.mpr ⟨p, hp, rfl⟩)
  have aT : a ∉ cs.map (·.2) := fun z => by
    have q := isT a z
    rw [ha] at q
    have z' : Data.seq vs.toArray _ = Data.fields #[] := congrArg Obj.data (Option.some.inj q)
    cases z'
  -- what is tracked, and what stands there
  have on : ∀ b u, H b = some u → (b ∈ cs.map (·.2) ∧ u = .tbl #[] ∧ s₁.heap.get? b = some tabO) ∨ (b = a ∧ K.lookup a = none ∧ u = .frz (scrO vs) (.lst (ns.map V.int)) ∧ s₁.heap.get? b = some (scrO vs)) := fun b u h => by
    rw [eH] at h
    rcases H0_some h with ⟨h1, h2⟩ | ⟨_, h1, h2, h3⟩
    · exact .inl ⟨h1, h2, isT b h1⟩
    · exact .inr ⟨h1, h2, h3, by rw [h1]; exact ha⟩
  have hS : SqL K H a (ns.map V.int) := by
    cases hk : K.lookup a with
    | some o =>
      have e := KX a o hk
      rw [ha] at e
      cases e
      exact .inr ⟨_, vs.toArray, _, hk, rfl, rfl, rfl, by rw [List.size_toArray, hi.length]; exact hl, by simpa using rv⟩
    | none =>
      refine .inl (.inr ⟨scrO vs, ?_⟩)
      rw [eH]
      unfold H0
      rw [if_neg aT, if_pos ⟨rfl, hk⟩]
  have hok : HOk P w H s₁.heap := fun b u h => by
    rcases on b u h with ⟨_, rfl, e⟩ | ⟨rfl, _, rfl, e⟩
    · exact e
    · exact ⟨ha, by rw [List.length_map]; exact hl, vs, _, rv, ha⟩
  have off : ∀ {b : Addr} {o : Obj}, s₁.heap.get? b = some o → o.data ≠ .fields #[] → (∀ ws n, o.data ≠ .seq ws n) → H b = none := fun {b o} e h1 h2 => by
    cases q : H b with
    | none => rfl
    | some u =>
      rcases on b u q with ⟨_, _, e'⟩ | ⟨_, _, _, e'⟩
      · rw [e] at e'; cases e'; exact absurd rfl h1
      · rw [e] at e'; cases e'; exact absurd rfl (h2 _ _)
  have nsK : ∀ {b : Addr} {m : Str → Option Value}, s₁.heap.Ns b m → (hidT s₁.heap H).Ns b m := fun {b m} ⟨o, es, ep, e, d, r⟩ => ⟨o, es, ep, hidT_get e (off e (by rw [d]; nofun) (by rw [d]; nofun)), d, r⟩
  have hKb : K.In (hidT s₁.heap H) := fun b o e => hidT_get (KX b o e) (by
    cases q : H b with
    | none => rfl
    | some u =>
      rcases on b u q with ⟨h1, _, _⟩ | ⟨h1, h2, _, _⟩
      · obtain ⟨p, hp, ep⟩ := List.mem_map.mp h1
        rw [← ep, nT p hp] at e; cases e
      · rw [h1, h2] at e; cases e)
  have hM : L2.Mod K mg (hidT s₁.heap H) := ⟨hKb, nsK hns, ⟨mb, nsK hb, hbb⟩, let ⟨mc, h1, h2⟩ := hlim; ⟨mc, nsK h1, h2⟩⟩
  have TB : ∀ p ∈ cs, TabB (hidT s₁.heap H) mg p.1 p.2 := fun p hp => by
    have hTp := hT p hp
    refine ⟨?_, ?_, fun z => ?_⟩
    · obtain ⟨o, us, file, tf, flags, tg, inF, text, tt, e1, r1, r2, r3, r4, r5, r6, r7, r8, hne⟩ := C p hp
      refine ⟨o, us, file, tf, flags, tg, inF, text, tt, hidT_get e1 (off e1 (fun z => ?_) (by rw [r2]; nofun)), r1, r2, r3, r4, r5, r6, r7, r8, hne⟩
      rw [r2] at z
      cases z
      simp at r3
    · obtain ⟨bm, ob, b1, b2, b3, b4, b5, b6⟩ := hbm
      have nG : bm ≠ mainGlobals := fun q => by
        obtain ⟨o, es, ep, e, hd, _⟩ := hns
        rw [q, e] at b3
        cases b3
        rw [hd] at b6
        cases b6
      have nP : bm ≠ p.2 := fun q => by
        rw [q, hTp] at b3
        cases b3
        cases b6
      exact ⟨bm, ob, b1, b2, nG, nP, hidT_get b3 (off b3 (by rw [b6]; nofun) (by rw [b6]; nofun)), b4, b5, b6⟩
    · obtain ⟨o, es, ep, e, hd, _⟩ := hns
      rw [z, hTp] at e
      cases e
      cases hd
  have e0 : Env0 P w K mg (hidT s₁.heap H) callerA [] s₁ H := ⟨rfl, hM, fun b o e => of_hidT e, Nat.le_of_eq (hidT_size _ _), trivial, fun b hb => absurd (show b ∈ ([] : List Addr) from hb) (by simp), hok, .of_eq hg⟩
  refine codeAny_mono ((F _ hKb (nsK hns) TB).run callerA [] s₁ H ⟨[.ref a], []⟩ [.ref a] [.ref a] _ _ hr rfl e0 (hbind s₁ (.ref a)) (.cons rfl .nil) (hsp H hH hS)) fun r s' h => ?_
  cases r with
  | error e =>
    obtain ⟨_, _, _, _, _, _, _, _, _, _, _, _, z⟩ := h
    exact z.elim
  | ok fl =>
    cases fl with
    | next => exact False.elim h
    | brk => exact False.elim h
    | cont => exact False.elim h
    | ret u =>
      obtain ⟨v, H', os, bare, un, hok', r', q⟩ := h
      have q' : v = .bl true := q
      subst q'
      obtain rfl : u = Value.bool true := r'
      refine ⟨rfl, ⟨fun b o e => ?_, fun b o e => ?_⟩, os, bare⟩
      · cases q : H b with
        | none => exact .inl (un.keep b o e q (fun z => absurd (show b ∈ ([] : List Addr) from z) (by simp)) (by simp))
        | some u =>
          rcases on b u q with ⟨h1, rfl, e'⟩ | ⟨_, _, rfl, e'⟩
          · obtain ⟨p, hp, ep⟩ := List.mem_map.mp h1
            rw [e] at e'
            cases e'
            obtain ⟨more, z⟩ := un.tbls b #[] q
            have z' := hok' b _ z
            rw [← ep] at z' ⊢
            exact .inr (.inl ⟨((C p hp).tab (hT p hp)).isCodeTable, rfl, #[], more, rfl, by rw [Array.empty_append]; rw [Array.empty_append] at z'; exact z'⟩)
          · have z := un.frzs b _ _ q
            obtain ⟨e2, _⟩ := hok' b _ z
            rw [e] at e'
            cases e'
            exact .inl e2
      · cases q : H b with
        | none => exact ⟨o, un.keep b o e q (fun z => absurd (show b ∈ ([] : List Addr) from z) (by simp)) (by simp)⟩
        | some u =>
          rcases on b u q with ⟨h1, rfl, e'⟩ | ⟨_, _, rfl, e'⟩
          · obtain ⟨more, z⟩ := un.tbls b #[] q
            exact ⟨_, hok' b _ z⟩
          · have z := un.frzs b _ _ q
            exact ⟨_, (hok' b _ z).1⟩
end
/-! ### the end of a law -/
theorem walk_G {l : PySem.W.OpenLaw} {n k : Nat} {q : Program} {loose : List Str} {XP : (Str → Option Value) → Heap → Prop} {YP : World → Heap → Prop} {d : DefRec} {x : Str} {m : FM}
    (hn : l.most = some n) (hn2 : n ≤ sizeLine) (hdf : d.params.defaults = []) (hr : Room k callerA)
    (pl : ∀ ns : List Int, ns.length ≤ n → (∀ z ∈ ns, Builtin.Int.intBits z ≤ 1048576) → ∃ μ, m [.scr (ns.map D.int)] [] = .ok (.bl true) μ)
    (F : ∀ (w : World) (mg : Str → Option Value) (fa : Addr) (h : Heap), YP w h → h.Ns mainGlobals mg → mg d.name = some (.ref fa) → ∃ (K : PySem.W.Frag) (fd : FuncData) (cs : List (Addr × Addr)) (T : List (Addr × Str)), K.In h ∧
      (∀ p ∈ cs, h.get? p.2 = some { cls := .none, data := .fields #[] }) ∧ (∀ p ∈ cs, K.lookup p.2 = none) ∧ (∀ p ∈ cs, PySem.W.CodeHd h p.1 p.2) ∧ (∀ q ∈ T, ∃ c, (c, q.1) ∈ cs) ∧ (∀ (s : Shared) (u : Value), BindsTo s fd ⟨[u], []⟩ [(x, u)]) ∧
      ∀ base : Heap, K.In base → base.Ns mainGlobals mg → (∀ p ∈ cs, TabB base mg p.1 p.2) → FnG l.prog w K mg base k fa fd [x] (spM K mg T 1 m)) :
    PySem.W.WalkO q loose XP YP l.row.toRowW d [] (fun f vs => PySem.call f vs) := by
  refine Att.attach_callB hn hdf fun w s₀ s₁ mg mb fa o pm cd doc a vs ns G Y ho hd hcd hmg hobj hints hlen hbits hg => ?_
  obtain ⟨K, fd, cs, T, KX, hT, nT, C, hTc, hb, hF⟩ := F w mg fa _ Y G.T.g hmg
  refine law_callG KX G.T.g G.T.b G.T.builtins G.T.nolimit hg hT nT C G.T.bmain hobj hints (Nat.le_trans hlen hn2) hr hF hb fun H hH hS => ?_
  obtain ⟨μ, hm⟩ := pl ns hlen hbits
  refine ⟨rfl, ⟨0, fun _ => 0, fun b => match H b with
    | some (.tbl _) => none
    | o => o, fun _ => none, fun _ => none⟩, [], [.scr (ns.map D.int)], ?_, ?_, ?_⟩
  · refine ⟨rfl, fun b u h => ?_, (fun b u h => nomatch h), (fun b u h => nomatch h), (fun b u h => nomatch h), (fun b u h => nomatch h), fun l b h => by simp at h, fun l h => by simp at h, fun l l' h => absurd h (Nat.not_lt_zero _), fun q hq => ?_, fun b ps => ⟨fun h => ?_, nofun, nofun, nofun⟩⟩
    · simp only at h
      split at h
      · cases h
      · exact h
    · obtain ⟨c, hc⟩ := hTc q hq
      refine ⟨#[], hH _ hc, ?_, fun pos cv z => ?_⟩
      · exact trivial
      · cases z
    · simp only at h
      split at h
      · cases h
      · next hn => exact hn ps h
  · refine .cons (.scr (vs := ns.map V.int) (.inl ?_) ?_) .nil
    · rcases hS with (hS | ⟨o, hS⟩) | hS
      · exact .inl (.inl (by simp only [hS]))
      · exact .inl (.inr ⟨o, by simp only [hS]⟩)
      · exact .inr hS
    · clear hlen hbits hm hS hints
      induction ns with
      | nil => exact .nil
      | cons z zs ih => exact .cons (.int z) ih
  · rw [hm]
    intro w' v H' le rm rd
    cases rd
    rfl
end Kw

set_option Elab.async false
set_option linter.all false
set_option maxRecDepth 100000
namespace Kw
open PySem PySem.Spec PyProof.Rows L2 LamX

/-! ### a def by its statement in the text -/
def permL {α : Type} (idx : List Nat) (l : List α) : List α := idx.filterMap (l[·]?)
abbrev FnP (K : PySem.W.Frag) (x : Str) (st : Stmt) (f : Addr) (fd : FuncData) : Prop := FunD K x x (defArgs st) (defBody st) (defScope st) [] [] f fd
/-- the def x does what m says -/
structure CalD (P : Program) (w : World) (K : PySem.W.Frag) (mg : Str → Option Value) (base : Heap) (T : List (Addr × Str)) (x : Str) (st : Stmt) (k : Nat) (ps : List Str) (m : FM) : Prop where
  ex : ∃ f fd, FnP K x st f fd ∧ mg x = some (.ref f) ∧ Binds K fd ps [] ∧ FnG P w K mg base k f fd ps (spM K mg T ps.length m)
section
variable {P : Program} {w : World} {K : PySem.W.Frag} {mg : Str → Option Value} {base : Heap} {T : List (Addr × Str)} {x : Str} {st : Stmt} {k : Nat} {ps : List Str} {m : FM} {f : Addr} {fd : FuncData}
theorem CalD.mk' (F : FnP K x st f fd) (hm : mg x = some (.ref f)) (hb : ∀ (kV doc pm : Value) (an : Option Addr) (cdv ct : Value) (us : List Value), us.length = ps.length → bindArgs (PySem.W.fnOf x x (defArgs st) (defBody st) (defScope st) .none kV doc pm an cdv ct) ⟨us, []⟩ = pure (ps.zip us))
    (h : FnG P w K mg base k f fd ps (spM K mg T ps.length m)) : CalD P w K mg base T x st k ps m := ⟨f, fd, F, hm, F.bindsN hb, h⟩
theorem FnP.bindsK {ks : List Str} {idx : List Nat} {a b : Nat} (F : FnP K x st f fd) (hb : ∀ (kV doc pm : Value) (an : Option Addr) (cdv ct : Value) (us ws : List Value), us.length = a → ws.length = b → bindArgs (PySem.W.fnOf x x (defArgs st) (defBody st) (defScope st) .none kV doc pm an cdv ct) ⟨us, ks.zip ws⟩ = pure (ps.zip (permL idx (us ++ ws))))
    (s : Shared) (us ws : List Value) (h1 : us.length = a) (h2 : ws.length = b) : BindsTo s fd ⟨us, ks.zip ws⟩ (ps.zip (permL idx (us ++ ws))) := by
  obtain ⟨oc, od, dV, kV, doc, pm, an, cdv, ct, osl, rfl, lk, hcd, hD, hK⟩ := F.ex
  rcases hD with ⟨_, rfl⟩ | ⟨e, _⟩
  · exact .of_eq (hb kV doc pm an cdv ct us ws h1 h2)
  · exact absurd rfl e
theorem permL_rel {w : Wd} : ∀ (idx : List Nat) {ds : List D} {vs : List V}, RelDs K mg w ds vs → RelDs K mg w (permL idx ds) (permL idx vs)
  | [], _, _, _ => .nil
  | i :: idx, ds, vs, h => by
    have ih := permL_rel idx h
    unfold permL at ih ⊢
    rw [List.filterMap_cons, List.filterMap_cons]
    cases e : ds[i]? with
    | none =>
      have : vs[i]? = none := by
        rw [List.getElem?_eq_none_iff] at e ⊢
        rw [← h.length]; exact e
      rw [this]
      exact ih
    | some d =>
      obtain ⟨v, hv, rv⟩ := h.get e
      rw [hv]
      exact .cons rv ih
theorem permL_vals : ∀ (idx : List Nat) {ds : List V} {vs : List Value}, Vals ds vs → Vals (permL idx ds) (permL idx vs)
  | [], _, _, _ => .nil
  | i :: idx, ds, vs, h => by
    have ih := permL_vals idx h
    unfold permL at ih ⊢
    rw [List.filterMap_cons, List.filterMap_cons]
    cases e : ds[i]? with
    | none =>
      have : vs[i]? = none := by
        rw [List.getElem?_eq_none_iff] at e ⊢
        rw [← h.length]; exact e
      rw [this]
      exact ih
    | some d =>
      obtain ⟨v, hv, rv⟩ := h.get e
      rw [hv]
      exact .cons rv ih
end
section
variable {X : Cx} {S : SI} {W : WX} {k j n a b : Nat} {ps ks : List Str} {x : Str} {p pos : Pos} {e : Expr} {es : List Expr} {kws : List Keyword} {mr mk : AM} {m : FM} {st : Stmt} {idx : List Nat}
/-- exceptions: none may come; or they are taken -/
theorem pass0 : ∀ σ, PassesAt (L2.CX X.prog X.w) X σ (WE W0 σ) := fun σ pins H s e s' I c => by
  obtain ⟨_, _, _, _, _, _, _, _, _, _, _, _, z⟩ := c
  exact z.elim
theorem passT (tk : Takes X W) : ∀ σ, PassesAt (L2.CX X.prog X.w) X σ (WE W σ) := passAt tk
theorem pe_P (C : CalD X.prog X.w X.K X.mg X.base S.T x st k ps m) (hx : ∀ σ, PassesAt (L2.CX X.prog X.w) X σ (WE W σ)) (hr : Room j X.A) (hk : k ≤ j) (hgd : X.A.guards = some []) (hg : Gl X x) (ha : PA X (e :: es) (TAm X S W mr)) (hn : ∀ δ μ ds μ', mr δ μ = .ok ds μ' → ds.length = ps.length) (hl : (e :: es).length = ps.length)
    (hdb : (x == ("__debug__" : Str)) = false := by decide) (he : starEach (e :: es) X.env = (false, eval e X.env) :: starEach es X.env := by rfl) (hpl : (backTo pos (starEach es X.env)).any (·.1) = false := by rfl) :
    PE X (.Call (.Name x p) (e :: es) [] pos) (TEm X S W <| eCallP m mr) := by
  obtain ⟨f, fd, F, hm, hb, G⟩ := C.ex
  exact pe_callP (fun t ht => pe_G G (hr.mono hk) hgd hg hm F.kp hb hx ht hdb he hpl) hl ha hn
theorem pe_M (C : CalD X.prog X.w X.K X.mg X.base S.T x st k ps m) (hx : ∀ σ, PassesAt (L2.CX X.prog X.w) X σ (WE W σ)) (hr : Room j X.A) (hk : k ≤ j) (hgd : X.A.guards = some []) (hg : Gl X x) (ha : PA X (e :: es) (TAm X S W mr)) (hn : ∀ δ μ ds μ', mr δ μ = .ok ds μ' → ds.length = ps.length) (hl : (e :: es).length = ps.length)
    (hdb : (x == ("__debug__" : Str)) = false := by decide) (he : starEach (e :: es) X.env = (false, eval e X.env) :: starEach es X.env := by rfl) (hpl : (backTo pos (starEach es X.env)).any (·.1) = false := by rfl) :
    PE X (.Call (.Name x p) (e :: es) [] pos) (TEm X S W <| eCallM m mr) := by
  obtain ⟨f, fd, F, hm, hb, G⟩ := C.ex
  exact pe_callM (fun t ht => pe_G G (hr.mono hk) hgd hg hm F.kp hb hx ht hdb he hpl) hl ha hn
/-- f() -/
def eCall0 (m : FM) : EM := fun _ μ => callP m [] μ
theorem pe_P0 (C : CalD X.prog X.w X.K X.mg X.base S.T x st k [] m) (hx : ∀ σ, PassesAt (L2.CX X.prog X.w) X σ (WE W σ)) (hr : Room j X.A) (hk : k ≤ j) (hgd : X.A.guards = some []) (hg : Gl X x) (hdb : (x == ("__debug__" : Str)) = false := by decide) :
    PE X (.Call (.Name x p) [] [] pos) (TEm X S W <| eCall0 m) := by
  obtain ⟨f, fd, F, hm, hb, G⟩ := C.ex
  exact PEi (pe_G0 G (hr.mono hk) hgd hg hm F.kp hb hx hdb) fun σ H Q ⟨w, δ, μ, h⟩ => sp_callP rfl h.2.1 .nil h.2.2
/-- f(.., k = v, ..) -/
def eCallK (m : FM) (idx : List Nat) (ma mk : AM) : EM := fun δ μ => (ma δ μ).bind fun ds μ1 => (mk δ μ1).bind fun es μ2 => callP m (permL idx (ds ++ es)) μ2
theorem pe_callK' {e' : Expr} (h : ∀ t tk, PA X es t → PK X kws tk → PE X e' (fun σ H Q => t σ H fun vs H1 => tk σ H1 fun zs H2 => vs.length = a ∧ zs.length = b ∧ spM X.K X.mg S.T n m (permL idx (vs ++ zs)) H2 Q (WE W σ))) (hi : ∀ ds : List D, ds.length = a + b → (permL idx ds).length = n)
    (ha : PA X es (TAm X S W mr)) (hk : PK X kws (TAm X S W mk)) (hn : ∀ δ μ ds μ', mr δ μ = .ok ds μ' → ds.length = a) (hn2 : ∀ δ μ ds μ', mk δ μ = .ok ds μ' → ds.length = b) : PE X e' (TEm X S W <| eCallK m idx mr mk) :=
  PEi (h _ _ ha hk) fun σ H Q ⟨w, δ, μ, h⟩ => ⟨w, δ, μ, by
    refine ⟨h.1, h.2.1, ?_⟩
    have h3 := h.2.2
    unfold eCallK at h3
    cases e : mr δ μ with
    | stuck => rw [e] at h3; exact h3.elim
    | exc x μ' => rw [e] at h3; exact h3
    | ok ds μ' =>
      rw [e] at h3
      intro w' vs H' le rm rs
      refine ⟨w', δ, μ', h.1.mono le, rm, ?_⟩
      have h4 : ((mk δ μ').bind fun es μ2 => callP m (permL idx (ds ++ es)) μ2).to _ _ := h3
      cases e2 : mk δ μ' with
      | stuck => rw [e2] at h4; exact h4.elim
      | exc x μ2 => rw [e2] at h4; exact fun w2 c d H2 le2 => h4 w2 c d H2 (le.trans le2)
      | ok es μ2 =>
        rw [e2] at h4
        intro w2 us H2 le2 rm2 rs2
        have l1 := hn _ _ _ _ e
        have l2 := hn2 _ _ _ _ e2
        have rr := permL_rel idx ((rs.mono le2).append rs2)
        refine ⟨by rw [← rs.length]; exact l1, by rw [← rs2.length]; exact l2, sp_callP (by rw [← rr.length]; exact hi _ (by rw [List.length_append, l1, l2])) rm2 rr ?_⟩
        exact Out.to_mono h4 (fun d μ2 q w3 v2 H2 le3 => q w3 v2 H2 ((le.trans le2).trans le3)) fun x μ2 q w3 c d H2 le3 => q w3 c d H2 ((le.trans le2).trans le3)⟩
theorem pe_K (C : CalD X.prog X.w X.K X.mg X.base S.T x st k ps m) (hb : ∀ (kV doc pm : Value) (an : Option Addr) (cdv ct : Value) (us ws : List Value), us.length = a → ws.length = b → bindArgs (PySem.W.fnOf x x (defArgs st) (defBody st) (defScope st) .none kV doc pm an cdv ct) ⟨us, ks.zip ws⟩ = pure (ps.zip (permL idx (us ++ ws))))
    (hi : ∀ ds : List D, ds.length = a + b → (permL idx ds).length = ps.length) (hx : ∀ σ, PassesAt (L2.CX X.prog X.w) X σ (WE W σ)) (hr : Room j X.A) (hk : k ≤ j) (hgd : X.A.guards = some []) (hg : Gl X x) (ha : PA X (e :: es) (TAm X S W mr)) (hkw : PK X kws (TAm X S W mk))
    (hn : ∀ δ μ ds μ', mr δ μ = .ok ds μ' → ds.length = a) (hn2 : ∀ δ μ ds μ', mk δ μ = .ok ds μ' → ds.length = b)
    (hall : (backToKw pos (keywordEach kws X.env)).all (·.1.isSome) = true := by rfl) (hks : (backToKw pos (keywordEach kws X.env)).filterMap (·.1) = ks := by rfl)
    (hdb : (x == ("__debug__" : Str)) = false := by decide) (he : starEach (e :: es) X.env = (false, eval e X.env) :: starEach es X.env := by rfl)
    (hpl : ((backTo pos (starEach (e :: es) X.env)).any (·.1) || (backToKw pos (keywordEach kws X.env)).any (·.1.isNone)) = false := by rfl) :
    PE X (.Call (.Name x p) (e :: es) kws pos) (TEm X S W <| eCallK m idx mr mk) := by
  obtain ⟨f, fd, F, hm, _, G⟩ := C.ex
  refine pe_callK' (n := ps.length) (fun t tk ht htk => ⟨fun pins s σ H Q I h => ?_⟩) hi ha hkw hn hn2
  refine wpAny_Call_Name_kw (ld_glob I hg hm ?_ hdb)
  refine PySem.W.callWith_KW (h₀ := X.base) I.ok.mod.kin F.kp hall (thn (ht.run pos pins s σ H _ I h) fun us s1 ⟨vs, H1, I1, r, q⟩ => ?_) hpl he
  refine thn (htk.run pos pins s1 σ H1 _ I1 q) fun ws s2 ⟨zs, H2, I2, rz, l1, l2, q2⟩ => ⟨I2.kIn, ?_⟩
  rw [hks]
  exact call_of (run_G G (hr.mono hk) hgd (hx σ) I2 (F.bindsK hb s2 us ws (by rw [← r.length]; exact l1) (by rw [← rz.length]; exact l2)) (permL_vals idx (r.append rz)) q2)
def eCallK0 (m : FM) (idx : List Nat) (mk : AM) : EM := fun δ μ => (mk δ μ).bind fun es μ2 => callP m (permL idx es) μ2
theorem pe_K0 (C : CalD X.prog X.w X.K X.mg X.base S.T x st k ps m) (hb : ∀ (kV doc pm : Value) (an : Option Addr) (cdv ct : Value) (us ws : List Value), us.length = 0 → ws.length = b → bindArgs (PySem.W.fnOf x x (defArgs st) (defBody st) (defScope st) .none kV doc pm an cdv ct) ⟨us, ks.zip ws⟩ = pure (ps.zip (permL idx (us ++ ws))))
    (hi : ∀ ds : List D, ds.length = b → (permL idx ds).length = ps.length) (hx : ∀ σ, PassesAt (L2.CX X.prog X.w) X σ (WE W σ)) (hr : Room j X.A) (hk : k ≤ j) (hgd : X.A.guards = some []) (hg : Gl X x) (hkw : PK X kws (TAm X S W mk))
    (hn2 : ∀ δ μ ds μ', mk δ μ = .ok ds μ' → ds.length = b)
    (hall : (backToKw pos (keywordEach kws X.env)).all (·.1.isSome) = true := by rfl) (hks : (backToKw pos (keywordEach kws X.env)).filterMap (·.1) = ks := by rfl)
    (hdb : (x == ("__debug__" : Str)) = false := by decide)
    (hpl : ((backTo pos (starEach [] X.env)).any (·.1) || (backToKw pos (keywordEach kws X.env)).any (·.1.isNone)) = false := by rfl) :
    PE X (.Call (.Name x p) [] kws pos) (TEm X S W <| eCallK0 m idx mk) := by
  obtain ⟨f, fd, F, hm, _, G⟩ := C.ex
  have h0 : PE X (.Call (.Name x p) [] kws pos) (fun σ H Q => TAm X S W mk σ H fun zs H2 => zs.length = b ∧ spM X.K X.mg S.T ps.length m (permL idx zs) H2 Q (WE W σ)) := by
    refine ⟨fun pins s σ H Q I h => ?_⟩
    refine wpAny_Call_Name_kw (ld_glob I hg hm ?_ hdb)
    refine PySem.W.callWith_KW0 (h₀ := X.base) I.ok.mod.kin F.kp hall ?_ hpl
    refine thn (hkw.run pos pins s σ H _ I h) fun ws s2 ⟨zs, H2, I2, rz, l2, q2⟩ => ⟨I2.kIn, ?_⟩
    rw [hks]
    exact call_of (run_G G (hr.mono hk) hgd (hx σ) I2 (F.bindsK hb s2 [] ws rfl (by rw [← rz.length]; exact l2)) (permL_vals idx rz) q2)
  exact PEi h0 fun σ H Q ⟨w, δ, μ, h⟩ => ⟨w, δ, μ, by
    refine ⟨h.1, h.2.1, ?_⟩
    have h3 := h.2.2
    unfold eCallK0 at h3
    cases e : mk δ μ with
    | stuck => rw [e] at h3; exact h3.elim
    | exc x μ' => rw [e] at h3; exact h3
    | ok es μ' =>
      rw [e] at h3
      intro w' us H' le rm rs
      have l2 := hn2 _ _ _ _ e
      have rr := permL_rel idx rs
      refine ⟨by rw [← rs.length]; exact l2, sp_callP (by rw [← rr.length]; exact hi _ l2) rm rr ?_⟩
      exact Out.to_mono h3 (fun d μ2 q w3 v2 H2 le3 => q w3 v2 H2 (le.trans le3)) fun x μ2 q w3 c d H2 le3 => q w3 c d H2 (le.trans le3)⟩
end
end Kw

set_option Elab.async false
set_option linter.all false
set_option maxRecDepth 100000
namespace Kw
open PySem PySem.Spec PyProof.Rows L2
/-! ### small things for the printed texts -/
/-- a module's name -/
def GlD (K : PySem.W.Frag) (mg : Str → Option Value) (x : Str) (d : D) : Prop := ∃ v u, mg x = some u ∧ RelV v u ∧ ∀ w, RelD K mg w d v
theorem GlD.int {K : PySem.W.Frag} {mg : Str → Option Value} {x : Str} {i : Int} (h : ∃ t, mg x = some (.int i t)) : GlD K mg x (.int i) := by
  obtain ⟨t, h⟩ := h
  exact ⟨.int i, _, h, ⟨t, rfl⟩, fun w => .int i⟩
theorem ints_rel {K : PySem.W.Frag} {mg : Str → Option Value} {w : Wd} : ∀ ns : List Int, RelDs K mg w (ns.map D.int) (ns.map V.int)
  | [] => .nil
  | n :: ns => .cons (.int n) (ints_rel ns)
theorem GlD.tupI {K : PySem.W.Frag} {mg : Str → Option Value} {x : Str} {a : Addr} {vs : List V} {ds : List D} (h : mg x = some (.ref a)) (hs : ∀ H, SqT K H a vs) (hv : vs = (((intsOf ds).getD []).map V.int)) (hd : ds = ((intsOf ds).getD []).map D.int := by rfl) : GlD K mg x (.tup ds) :=
  ⟨.ref a, _, h, rfl, fun w => .tup (hs _) (by
    rw [hv]
    have := ints_rel (K := K) (mg := mg) (w := w) ((intsOf ds).getD [])
    rwa [← hd] at this)⟩
def gNeg : D → Mem → Option D
  | .int i, _ => some (.int (-i))
  | _, _ => none
def gAddI : D → D → Mem → Option D
  | .int i, .int j, _ => some (.int (i + j))
  | _, _, _ => none
section
variable {K : PySem.W.Frag} {mg : Str → Option Value} {T : List (Addr × Str)} {x y : V} {H : Hp} {Q : VK}
theorem addI_r (h : rD2 K mg T gAddI x y H Q) : rI0 (fun i j => .int (i + j)) x y H Q := by
  obtain ⟨w, μ, dx, dy, d, r, rx, ry, e, q⟩ := h
  unfold gAddI at e
  split at e
  · cases rx; cases ry; cases e
    exact ⟨_, _, rfl, rfl, q.same r (.int _)⟩
  · cases e
end
theorem u64 {k : Nat} {A : Around} (r : Room k A) : A.units + 64 < cLine := r.units
theorem u65 {k : Nat} {A : Around} (r : Room k A) : A.units + 65 < cLine := by have := r.un; omega
theorem u200 {k : Nat} {A : Around} (r : Room k A) : A.units + 200 < cLine := by have := r.un; omega
section
variable {X : Cx} {S : SI} {W : WX} {a : Expr} {ma : EM} {pos : Pos} {x : Str} {i : Nat} {d : D}
theorem pv' (i : Nat) (hN : X.N[i]? = some x := by rfl) (hv : Vis X.env.scope x := by first | exact Or.inl rfl | exact Or.inr (Or.inl rfl) | exact Or.inr (Or.inr rfl)) (hd : (x == ("__debug__" : Str)) = false := by decide)
    (hcd : (x == ("__classdict__" : Str)) = false := by decide) : PE X (.Name x pos) (TEm X S W (eVar i)) := pe_var' hN hv hd hcd
theorem pe_gD (hg : Gl X x) (h : GlD X.K X.mg x d) (hd : (x == ("__debug__" : Str)) = false := by decide) : PE X (.Name x pos) (TEm X S W (eC d)) := by
  obtain ⟨v, u, hm, r, rd⟩ := h
  exact pe_C' (pe_glob hg hm r hd) rd
theorem pa_ty0 : PA X [] (fun _ H Q => Q (([] : List String).map V.ty) H) := pa_nil
theorem pa_tyS {e : Expr} {es : List Expr} {n : String} {ns : List String} (h : PE X e (tC (.ty n))) (h2 : PA X es (fun _ H Q => Q (ns.map V.ty) H)) (hs : starEach (e :: es) X.env = (false, eval e X.env) :: starEach es X.env := by rfl) : PA X (e :: es) (fun _ H Q => Q ((n :: ns).map V.ty) H) := pa_cons h h2 hs
theorem pe_neg' (ha : PE X a (TEm X S W ma)) : PE X (.UnaryOp .USub a pos) (TEm X S W <| e1 gNeg ma) :=
  pe_1 (r := rU fun i => .int (-i)) (fun t h => pe_un un_neg h) (fun x H Q ⟨w, μ, dx, d, r, rx, e, q⟩ => by
    unfold gNeg at e
    split at e
    · cases rx; cases e
      exact ⟨_, rfl, q.same r (.int _)⟩
    · cases e) ha
end
end Kw

set_option Elab.async false
set_option linter.all false
set_option maxRecDepth 100000
namespace Kw
open PySem PySem.Spec PyProof.Rows L2
/-! ### running the plain functions -/
/-- a rewriting that the kernel is not asked to find again -/
theorem nr {α : Sort _} {a b : α} (h : a = b) : a = b := h
section
variable {α β : Type} {a : α} {μ μ1 μ2 : Mem} {x : Xn} {f : α → Mem → Out β} {k : α → Mem → SOut} {δ δ1 : Sv} {d e : D} {b : Bool}
@[simp] theorem bind_ok : (Out.ok a μ).bind f = f a μ := nr rfl
@[simp] theorem bind_exc : (Out.exc x μ : Out α).bind f = .exc x μ := nr rfl
@[simp] theorem bind_stuck : (Out.stuck : Out α).bind f = .stuck := nr rfl
@[simp] theorem bindS_ok : (Out.ok a μ).bindS δ k = k a μ := nr rfl
@[simp] theorem bindS_exc : (Out.exc x μ : Out α).bindS δ k = .exc x δ μ := nr rfl
@[simp] theorem bindS_stuck : (Out.stuck : Out α).bindS δ k = .stuck := nr rfl
@[simp] theorem oOf_some : oOf (some d) μ = .ok d μ := nr rfl
@[simp] theorem oOf_none : oOf none μ = .stuck := nr rfl
@[simp] theorem oOfM_some : oOfM (some (d, μ)) = .ok d μ := nr rfl
@[simp] theorem bOf_some : bOf (some b) μ = .ok b μ := nr rfl
@[simp] theorem eC_run : eC d δ μ = .ok d μ := nr rfl
@[simp] theorem then_nx {k : Sv → Mem → SOut} : (SOut.nx δ μ).then k = k δ μ := nr rfl
@[simp] theorem then_ret {k : Sv → Mem → SOut} : (SOut.ret d μ).then k = .ret d μ := nr rfl
@[simp] theorem sSeq_run {m1 m2 : SM} : sSeq m1 m2 δ μ = (m1 δ μ).then m2 := nr rfl
@[simp] theorem sNext_run : sNext δ μ = .nx δ μ := nr rfl
@[simp] theorem aNil_run : aNil δ μ = .ok [] μ := nr rfl
@[simp] theorem aCons_run {ma : EM} {mr : AM} : aCons ma mr δ μ = (ma δ μ).bind fun x μ1 => (mr δ μ1).bind fun xs μ2 => .ok (x :: xs) μ2 := nr rfl
@[simp] theorem e1_run {g : D → Mem → Option D} {ma : EM} : e1 g ma δ μ = (ma δ μ).bind fun x μ1 => oOf (g x μ1) μ1 := nr rfl
@[simp] theorem e2_run {g : D → D → Mem → Option D} {ma mb : EM} : e2 g ma mb δ μ = (ma δ μ).bind fun x μ1 => (mb δ μ1).bind fun y μ2 => oOf (g x y μ2) μ2 := nr rfl
@[simp] theorem eAs_run {g : List D → Mem → Option D} {ma : AM} : eAs g ma δ μ = (ma δ μ).bind fun xs μ1 => oOf (g xs μ1) μ1 := nr rfl
@[simp] theorem eAsM_run {g : List D → Mem → Option (D × Mem)} {ma : AM} : eAsM g ma δ μ = (ma δ μ).bind fun xs μ1 => oOfM (g xs μ1) := nr rfl
@[simp] theorem tTru_run {ma : EM} : tTru ma δ μ = (ma δ μ).bind fun x μ1 => bOf (truD μ1 x) μ1 := nr rfl
@[simp] theorem tNot_run {mt : TM} : tNotM mt δ μ = (mt δ μ).bind fun b μ1 => .ok (!b) μ1 := nr rfl
@[simp] theorem tAnd_run {ma mb : TM} : tAndM ma mb δ μ = (ma δ μ).bind fun b μ1 => if b = true then mb δ μ1 else .ok false μ1 := nr rfl
@[simp] theorem tOr_run {ma mb : TM} : tOrM ma mb δ μ = (ma δ μ).bind fun b μ1 => if b = true then .ok true μ1 else mb δ μ1 := nr rfl
@[simp] theorem tBl_run {m : EM} : tBl m δ μ = (m δ μ).bind fun d μ1 => match d with
  | .bl b => .ok b μ1
  | _ => .stuck := nr rfl
@[simp] theorem tYes_run : tYesM δ μ = .ok true μ := nr rfl
@[simp] theorem eNot_run {ma : EM} : eNotM ma δ μ = (ma δ μ).bind fun x μ1 => (bOf (truD μ1 x) μ1).bind fun b μ2 => .ok (.bl !b) μ2 := nr rfl
@[simp] theorem eAnd_run {ma mb : EM} : eAndM ma mb δ μ = (ma δ μ).bind fun x μ1 => (bOf (truD μ1 x) μ1).bind fun b μ2 => if b = true then mb δ μ2 else .ok x μ2 := nr rfl
@[simp] theorem eOr_run {ma mb : EM} : eOrM ma mb δ μ = (ma δ μ).bind fun x μ1 => (bOf (truD μ1 x) μ1).bind fun b μ2 => if b = true then .ok x μ2 else mb δ μ2 := nr rfl
@[simp] theorem eIf_run {mt : TM} {ma mb : EM} : eIfM mt ma mb δ μ = (mt δ μ).bind fun b μ1 => if b = true then ma δ μ1 else mb δ μ1 := nr rfl
@[simp] theorem sRet_run {ma : EM} : sRet ma δ μ = (ma δ μ).bindS δ fun d μ1 => .ret d μ1 := nr rfl
@[simp] theorem sDrop_run {ma : EM} : sDrop ma δ μ = (ma δ μ).bindS δ fun _ μ1 => .nx δ μ1 := nr rfl
@[simp] theorem sIf_run {mt : TM} {m1 m2 : SM} : sIf mt m1 m2 δ μ = (mt δ μ).bindS δ fun k μ1 => if k = true then m1 δ μ1 else m2 δ μ1 := nr rfl
@[simp] theorem sAsg_run {ma : EM} {g : GM} : sAsg ma g δ μ = (ma δ μ).bindS δ fun d μ1 => g d δ μ1 := nr rfl
@[simp] theorem gNm_run {i : Nat} : gNm i d δ μ = .nx (δ.set i (some d)) μ := nr rfl
@[simp] theorem sPar_run {i j : Nat} {ma : AM} : sPar i j ma δ μ = (ma δ μ).bindS δ fun ds μ1 => match ds with
  | [a, b] => .nx ((δ.set i (some a)).set j (some b)) μ1
  | _ => .stuck := nr rfl
@[simp] theorem sFor_run {mi : IM} {g : GM} {b : SM} : sFor mi g b δ μ = (mi δ μ).bindS δ fun items μ1 => loopS g b items δ μ1 := nr rfl
@[simp] theorem eCallP_run {m : FM} {ma : AM} : eCallP m ma δ μ = (ma δ μ).bind fun ds μ1 => callP m ds μ1 := nr rfl
@[simp] theorem eCallM_run {m : FM} {ma : AM} : eCallM m ma δ μ = (ma δ μ).bind fun ds μ1 => callM m ds μ1 := nr rfl
@[simp] theorem eCallK0_run {m : FM} {idx : List Nat} {mk : AM} : eCallK0 m idx mk δ μ = (mk δ μ).bind fun es μ2 => callP m (permL idx es) μ2 := nr rfl
@[simp] theorem gSubM_run {mo mi : EM} : gSubM mo mi d δ μ = (mo δ μ).bindS δ fun o μ1 => (mi δ μ1).bindS δ fun i μ2 => match gSet o i d μ2 with
  | some μ3 => .nx δ μ3
  | none => .stuck := nr rfl
@[simp] theorem eLc_run {mi : IM} {g : GM} {mt : TM} {me : EM} {vs : List Nat} : eLc mi g mt me vs δ μ = (mi δ μ).bind fun items μ1 => match lcL g mt me (wipeD δ vs) items μ1 with
  | .ok ys μ2 => if ys.length ≤ sizeLine then .ok (.lst ys) μ2 else .stuck
  | _ => .stuck := nr rfl
@[simp] theorem eMtL_run {g : D → List D → Mem → Option (D × Mem)} {mo : EM} {ma : AM} : eMtL g mo ma δ μ = (mo δ μ).bind fun x μ1 => if (lstX μ1 x).isSome = true then (ma δ μ1).bind fun xs μ2 => oOfM (g x xs μ2) else .stuck := nr rfl
@[simp] theorem gAdd_int {i j : Int} : gAdd (.int i) (.int j) μ = some (.int (i + j)) := nr rfl
@[simp] theorem gSub_int {i j : Int} : Kw.gSub (.int i) (.int j) μ = some (.int (i - j)) := nr rfl
@[simp] theorem gLt_int {i j : Int} : gLt (.int i) (.int j) μ = some (.bl (decide (i < j))) := nr rfl
@[simp] theorem gLe_int {i j : Int} : gLe (.int i) (.int j) μ = some (.bl (decide (i ≤ j))) := nr rfl
@[simp] theorem gGt_int {i j : Int} : gGt (.int i) (.int j) μ = some (.bl (decide (j < i))) := nr rfl
@[simp] theorem gGe_int {i j : Int} : gGe (.int i) (.int j) μ = some (.bl (decide (j ≤ i))) := nr rfl
theorem gMul_l {i j : Int} (h : -18446744073709551616 < i) (h2 : i < 18446744073709551616) : gMul (.int i) (.int j) μ = some (.int (i * j)) := if_pos (.inl (.inl ⟨by omega, h2⟩))
theorem gMul_r {i j : Int} (h : -18446744073709551616 < j) (h2 : j < 18446744073709551616) : gMul (.int i) (.int j) μ = some (.int (i * j)) := if_pos (.inl (.inr ⟨by omega, h2⟩))
theorem gMod_int {i j : Int} (h : 0 < j) : gMod (.int i) (.int j) μ = some (.int (i % j)) := if_pos h
theorem gFdv_int {i j : Int} (h : 0 < j) (h2 : j < 1073741824) : gFdv (.int i) (.int j) μ = some (.int (i / j)) := if_pos ⟨h, .inl h2⟩
theorem eqD_int {i j : Int} : eqD (.int i) (.int j) μ = some (i == j) := rfl
@[simp] theorem gEq_int {i j : Int} : gEq (.int i) (.int j) μ = some (.bl (i == j)) := nr rfl
@[simp] theorem gNe_int {i j : Int} : gNe (.int i) (.int j) μ = some (.bl (!(i == j))) := nr rfl
@[simp] theorem gNe_bl {i j : Bool} : gNe (.bl i) (.bl j) μ = some (.bl (!(i == j))) := nr rfl
@[simp] theorem gIsNot_bl {i j : Bool} : gIsNot (.bl i) (.bl j) μ = some (.bl (!decide (i = j))) := nr rfl
@[simp] theorem gIs_bl {i j : Bool} : gIs (.bl i) (.bl j) μ = some (.bl (decide (i = j))) := nr rfl
@[simp] theorem gInt_int {i : Int} : gInt [.int i] μ = some (.int i) := nr rfl
@[simp] theorem gAbs_int {i : Int} : gAbs [.int i] μ = some (.int (if i < 0 then -i else i)) := nr rfl
@[simp] theorem tru_bl : truD μ (.bl b) = some b := nr rfl
@[simp] theorem eCallP_def {m : FM} {ma : AM} : eCallP m ma δ μ = (ma δ μ).bind fun ds μ1 => callP m ds μ1 := nr rfl
end
/-! ### calls -/
theorem callP_ok {m : FM} {ds : List D} {μ μ' : Mem} {d : D} (h : m ds [] = .ok d μ') (hd : locBs false 0 ds = true) (hr : locB false 0 d = true) : callP m ds μ = .ok d μ := by
  unfold callP
  rw [if_pos hd, h]
  exact if_pos hr
theorem callP_lent {m : FM} {ds es : List D} {μ μ' : Mem} {d : D} (hd : locBs false 0 ds = false) (hf : frzWs (frzL μ 4) ds = some es) (h : m es [] = .ok d μ') (hr : locB true 0 d = true) : callP m ds μ = .ok d μ := by
  unfold callP
  rw [if_neg (by rw [hd]; decide), hf]
  simp only
  rw [h]
  exact if_pos hr
theorem callM_ok {m : FM} {ds : List D} {μ μ' : Mem} {d : D} (h : m ds μ = .ok d μ') (hl : μ'.length = μ.length) : callM m ds μ = .ok d μ' := by
  unfold callM
  rw [h]
  simp only
  split
  · rw [← hl, List.take_length]
  · rfl
theorem callM_new {m : FM} {ds : List D} {μ μ' : Mem} {l : Nat} (h : m ds μ = .ok (.loc l) μ') (hl : μ.length ≤ l) : callM m ds μ = .ok (.loc l) μ' := by
  unfold callM
  rw [h]
  simp only
  rw [if_neg]
  intro z
  rw [Bool.and_eq_true] at z
  have := z.1
  simp only [locB, decide_eq_true_eq] at this
  omega
/-! ### comprehensions, loops -/
theorem lcL_pure {g : GM} {mt : TM} {me : EM} {δ : Sv} {μ : Mem} {t : D → Bool} {f : D → D} : ∀ {items : List D}, (∀ d ∈ items, ∃ δ', g d δ μ = .nx δ' μ ∧ mt δ' μ = .ok (t d) μ ∧ (t d = true → me δ' μ = .ok (f d) μ)) → lcL g mt me δ items μ = .ok ((items.filter t).map f) μ
  | [], _ => rfl
  | d :: ds, h => by
    obtain ⟨δ', h1, h2, h3⟩ := h d List.mem_cons_self
    have ih := lcL_pure (fun e he => h e (List.mem_cons_of_mem _ he))
    unfold lcL
    rw [h1]
    simp only
    rw [h2]
    cases ht : t d with
    | true =>
      simp only
      rw [h3 ht]
      simp only
      rw [ih]
      simp [List.filter_cons, ht]
    | false =>
      simp only
      rw [ih]
      simp [List.filter_cons, ht]
theorem lcL_ints {g : GM} {mt : TM} {me : EM} {δ : Sv} {μ : Mem} {t : Int → Bool} {f : Int → D} : ∀ {is : List Int}, (∀ i ∈ is, ∃ δ', g (.int i) δ μ = .nx δ' μ ∧ mt δ' μ = .ok (t i) μ ∧ (t i = true → me δ' μ = .ok (f i) μ)) → lcL g mt me δ (is.map D.int) μ = .ok ((is.filter t).map f) μ
  | [], _ => rfl
  | d :: ds, h => by
    obtain ⟨δ', h1, h2, h3⟩ := h d List.mem_cons_self
    have ih := lcL_ints (fun e he => h e (List.mem_cons_of_mem _ he))
    rw [List.map_cons]
    unfold lcL
    rw [h1]
    simp only
    rw [h2]
    cases ht : t d with
    | true =>
      simp only
      rw [h3 ht]
      simp only
      rw [ih]
      simp [List.filter_cons, ht]
    | false =>
      simp only
      rw [ih]
      simp [List.filter_cons, ht]
theorem boolsOf_map {α : Type} (b : α → Bool) : ∀ l : List α, boolsOf (l.map fun i => D.bl (b i)) = some (l.map b)
  | [] => rfl
  | a :: l => by
    have := boolsOf_map b l
    simp [boolsOf, this]
theorem intsOf_map : ∀ l : List Int, intsOf (l.map D.int) = some l
  | [] => rfl
  | a :: l => by
    have := intsOf_map l
    simp [intsOf, this]
theorem loopS_nx {g : GM} {b : SM} {d : D} {ds : List D} {δ δ1 δ2 : Sv} {μ μ1 μ2 : Mem} (h1 : g d δ μ = .nx δ1 μ1) (h2 : b δ1 μ1 = .nx δ2 μ2) : loopS g b (d :: ds) δ μ = loopS g b ds δ2 μ2 := by
  conv => lhs; unfold loopS
  simp only [h1, h2]
theorem loopS_ct {g : GM} {b : SM} {d : D} {ds : List D} {δ δ1 δ2 : Sv} {μ μ1 μ2 : Mem} (h1 : g d δ μ = .nx δ1 μ1) (h2 : b δ1 μ1 = .ct δ2 μ2) : loopS g b (d :: ds) δ μ = loopS g b ds δ2 μ2 := by
  conv => lhs; unfold loopS
  simp only [h1, h2]
theorem loopS_ret {g : GM} {b : SM} {d v : D} {ds : List D} {δ δ1 : Sv} {μ μ1 μ2 : Mem} (h1 : g d δ μ = .nx δ1 μ1) (h2 : b δ1 μ1 = .ret v μ2) : loopS g b (d :: ds) δ μ = .ret v μ2 := by
  conv => lhs; unfold loopS
  simp only [h1, h2]
theorem loopS_inv {g : GM} {b : SM} {I : Sv → Mem → Prop} : ∀ {items : List D} {δ : Sv} {μ : Mem}, (∀ d ∈ items, ∀ δ μ, I δ μ → ∃ δ1 δ2 μ2, g d δ μ = .nx δ1 μ ∧ (b δ1 μ = .nx δ2 μ2 ∨ b δ1 μ = .ct δ2 μ2) ∧ I δ2 μ2) → I δ μ → ∃ δ' μ', loopS g b items δ μ = .nx δ' μ' ∧ I δ' μ'
  | [], δ, μ, _, hi => ⟨δ, μ, rfl, hi⟩
  | d :: ds, δ, μ, h, hi => by
    obtain ⟨δ1, δ2, μ2, h1, h2, h3⟩ := h d List.mem_cons_self δ μ hi
    obtain ⟨δ', μ', h4, h5⟩ := loopS_inv (items := ds) (fun e he => h e (List.mem_cons_of_mem _ he)) h3
    refine ⟨δ', μ', ?_, h5⟩
    unfold loopS
    rw [h1]
    simp only
    rcases h2 with h2 | h2 <;> rw [h2] <;> exact h4
theorem seq_ex {m1 m2 : SM} {δ δ1 : Sv} {μ μ1 : Mem} {Q : Sv → Mem → Prop} (h : m1 δ μ = .nx δ1 μ1) (h2 : ∃ δ2 μ2, m2 δ1 μ1 = .nx δ2 μ2 ∧ Q δ2 μ2) : ∃ δ2 μ2, sSeq m1 m2 δ μ = .nx δ2 μ2 ∧ Q δ2 μ2 := by
  obtain ⟨δ2, μ2, e, q⟩ := h2
  exact ⟨δ2, μ2, by rw [sSeq_run, h]; exact e, q⟩
/-! ### the law's box: its list lies at l, its two numbers are as wanted -/
def Box (μ : Mem) (l : Nat) : Prop := ∃ g x : Int, μ[l]? = some (.lst [.int g, .int x]) ∧ 0 ≤ g ∧ 1 ≤ x ∧ x ≤ 2147483647
/-- the places but l stay -/
def Stay (l : Nat) (μ μ' : Mem) : Prop := μ'.length = μ.length ∧ ∀ i, i ≠ l → μ'[i]? = μ[i]?
theorem Stay.refl (l : Nat) (μ : Mem) : Stay l μ μ := ⟨rfl, fun _ _ => rfl⟩
theorem Stay.trans {l : Nat} {a b c : Mem} (x : Stay l a b) (y : Stay l b c) : Stay l a c := ⟨y.1.trans x.1, fun i h => (y.2 i h).trans (x.2 i h)⟩
theorem Stay.set (l : Nat) (μ : Mem) (b : Ob) : Stay l μ (μ.set l b) := ⟨List.length_set .., fun i h => List.getElem?_set_ne fun e => h e.symm⟩
end Kw

set_option Elab.async false
set_option linter.all false
set_option maxRecDepth 100000
set_option maxHeartbeats 2000000
/-! own exceptions whose __init__ is: super().__init__(text); self.field = field. -/
namespace PySem
namespace KwX
open PySem.W PySem.Calls PyProof.Rows PySem.HandSPX
/-! ### the text of such an __init__ -/
def iA (fld : Str) (p1 p2 : Pos) : Arguments := { posonlyargs := [], args := [{ arg := "self", annotation := none, pos := p1 }, { arg := fld, annotation := none, pos := p2 }], vararg := none, kwonlyargs := [], kw_defaults := [], kwarg := none, defaults := [] }
def iB (fld txt : Str) (j : Nat) (q1 q2 q3 q4 q5 q6 q7 q8 q9 q10 : Pos) : List Stmt := [.Expr (.Call (.Attribute (.Call (.Name "super" q1) [] [] q2) "__init__" q3) [.Constant (.str txt) j q4] [] q5) q6, .Assign [.Attribute (.Name "self" q7) fld q8] (.Name fld q9) q10]
def iS (fld : Str) : Scope := { kind := .function, names := [(PySem.Str.ofString "self", .local), (fld, .local), (PySem.Str.ofString "__class__", .free), (PySem.Str.ofString "super", .globalImplicit)], isGenerator := false, isCoroutine := false, more := [] }
section
variable {prog : Program} {w : World} {A : Around} {E : Value → Shared → Prop} {h : Heap} {g : Array GenState} {d : Drawn} {t : Nat} {os : OsState}
variable {nm q : Str} {C N : Addr} {bs bm : List Value} {hdct : Bool} {sn : List Str} {sub : List Value} {ab : Bool} {col : Option Bool} {dd : Option Addr} {k0 k1 k2 k3 k5 : Option Value}
/-- the built-in __init__, bound, called -/
theorem call_mw {u e t0 : Addr} {rest : List Value} {Q : Value → Shared → Prop}
    (hC : h.get? C = some (excClassObj nm q C N bs bm hdct sn sub ab col dd k0 k1 k2 k3 k5 "ValueError.__new__")) (he : h.get? e = some (HandSPX.excO C t0)) (hu : h.get? u = some (kxs_mw "ValueError.__init__" e)) (hrest : rest.length ≤ sizeLine)
    (hq : ∀ h' t1, (∀ b o, b ≠ e → h.get? b = some o → h'.get? b = some o) → h'.get? e = some (HandSPX.excO C t1) → Q .none ⟨h', g, d, t, os⟩) :
    wpAny (model prog w) A (call (.ref u) rest) Q E ⟨h, g, d, t, os⟩ := by
  refine wpAny_call (codeAny_of_tree ?_)
  show wpAny _ A.in1 (callAny (.ref u) ⟨rest, []⟩) _ _ _
  simp only [callAny]
  refine wpAny_bind (wpAny_load hu ?_)
  simp only [kxs_mw, show (Value.type "method-wrapper" == Value.type "method" || Value.type "method-wrapper" == Value.type "builtin_function_or_method" || Value.type "method-wrapper" == Value.type "method-wrapper") = true by decide, if_true]
  refine W.KFB.if_so (by decide) ?_
  refine wpAny_bind (ESX.check_bound F.excBase_ValueError hC he rfl ?_)
  refine wpAny_bind (wpAny_pure (wpAny_pure ?_))
  refine ⟨Code.quiet_builtin _ (by decide +kernel), codeAny_builtin F.excBase_ValueError.initEntry ?_⟩
  rw [Around.under_plainId F.excBase_ValueError.init.plain _]
  wp_walk
  refine hq _ h.objs.size (fun b o hb ho => ?_) ?_
  · rw [Heap.get?_update_other _ _ (Ne.symm hb)]
    exact Heap.get?_push_of_some _ ho
  · rw [Heap.get?_update_self _ (Heap.get?_push_of_some _ he) rfl]
    rfl
end
/-- what the written part says of the class cn, at C, and of its __init__, at fI -/
structure SupTxt (P : Program) (K : Frag) (mg : Str → Option Value) (cn fld txt : Str) (C fI : Addr) : Prop where
  gC : mg cn = some (.ref C)
  cls : ∃ nm q N bs bm sn sub ab col dd k0 k1 k2 k3 k5, K.lookup C = some (excClassObj nm q C N bs bm true sn sub ab col dd k0 k1 k2 k3 k5 "ValueError.__new__") ∧ refsVE bm = true
  sa : findIn K (.ref C) "__setattr__" = some (some (.builtin "object.__setattr__"))
  ga : findIn K (.ref C) "__getattribute__" = some (some (.builtin "BaseException.__getattribute__"))
  gg : findIn K (.ref C) "__getattr__" = some none
  noN : findIn K (.ref C) fld = some none
  iC : findIn K (.ref C) "__init__" = some (some (.ref fI))
  tC : typeIn K (.ref fI) = some (.type "function")
  kC : keepIn K (.ref C) = true
  exC : subIn K (.ref C) (.type "BaseException") = some true
  veC : subIn K (.ref C) (.type "ValueError") = some true
  tyC : typeIn K (.ref C) = some (.type "type")
  hdC : hasDictIn K C = true
  ne1 : ¬ fld = "self"
  binds : ∀ (qual : Str) (kV doc pm : Value) (an : Option Addr) (cdv ct : Value) (cc : Addr) (j : Nat) (p1 p2 q1 q2 q3 q4 q5 q6 q7 q8 q9 q10 : Pos) (a v : Value), bindArgs (ksFn "__init__" qual (iA fld p1 p2) (iB fld txt j q1 q2 q3 q4 q5 q6 q7 q8 q9 q10) (iS fld) .none kV doc pm an cdv ct cc) ⟨[a, v], []⟩ = pure ([(PySem.Str.ofString "self", a), (fld, v)] : List (Str × Value))
  kin : (iS fld).names.lookup fld = some .local
  kSup : (iS fld).names.lookup ("super" : Str) = some .globalImplicit
  kCls : (iS fld).names.lookup ("__class__" : Str) = some .free
  size : txt.length ≤ sizeLine
  ne2 : (fld == ("__debug__" : Str)) = false
  /-- super().__init__ is the built-in one -/
  sup : ks_superIn K C C "__init__" = some (some (.builtin "ValueError.__init__"))
  self_ : mroIn K C (.ref C) = some true
  opq : nsIn K cStatics "thirdparty.any" = some none
  free : mg "super" = none
  top : (P.main.scope.names.lookup ("super" : Str)).isSome = false
  fn : ∃ (oc : Value) (od : Option Addr) (kV doc pm : Value) (an : Option Addr) (ct ccl : Value) (cdd : Option Addr) (vs : Array Value) (ccs : Array (Option Value)) (osl csl : Array (Option Value)) (cl : Value) (cld : Option Addr) (file : Str) (tf : Tok) (qual : Str) (cda cc : Addr) (j : Nat) (p1 p2 q1 q2 q3 q4 q5 q6 q7 q8 q9 q10 : Pos),
    K.lookup fI = some ⟨oc, od, .func (ksFn "__init__" qual (iA fld p1 p2) (iB fld txt j q1 q2 q3 q4 q5 q6 q7 q8 q9 q10) (iS fld) .none kV doc pm an (.ref cda) ct cc), osl⟩ ∧ codeIn K (.ref cda) qual = true ∧
    K.lookup cda = some ⟨ccl, cdd, .fields vs, ccs⟩ ∧ vs[2]? = some (.str file tf) ∧ ((P.main.file : Str) == file) = true ∧ K.lookup cc = some ⟨cl, cld, .cell (some (.ref C)), csl⟩ ∧ (q3.endLine == q5.line) = true
/-- what __init__ leaves of a fresh exception at x -/
structure InitEnd (fld : Str) (h h' : Heap) (x C dx t1 : Addr) (v : Value) : Prop where
  keep : ∀ b o, b ≠ x → h.get? b = some o → h'.get? b = some o
  obj : h'.get? x = some { cls := .ref C, dict := some dx, data := .fields #[.ref t1, .none, .none, .none, .bool false, .none] }
  dbig : h.objs.size ≤ dx
  dne : dx ≠ x
  ns : h'.Ns1 dx (fun y => if y = fld then some v else none)
section
variable {prog : Program} {w : World} {A : Around} {E : Value → Shared → Prop} {R : Result → Shared → Prop} {s : Shared} {K : Frag} {mg mb : Str → Option Value} {cn fld txt : Str} {C fI : Addr}
theorem sup_init (T : SupTxt prog K mg cn fld txt C fI) {x t0 : Addr} {v : Value} (X : K.In s.heap) (hG : s.heap.Ns mainGlobals mg) (hB : s.heap.Ns builtinsNs mb) (hbb : ∀ y : Str, y ≠ "__name__" → mb y = bootBuiltins y) (hlim : s.heap.NoLimit) (hx : s.heap.get? x = some (excO C t0)) (hnx : K.lookup x = none) (hroom : A.depth < recursionLimit)
    (hnG : x ≠ mainGlobals) (hnB : x ≠ builtinsNs)
    (hq : ∀ h' tk dx t1, InitEnd fld s.heap h' x C dx t1 v → R (.ok (.ret .none)) { s with heap := h', toks := tk }) :
    codeAny (model prog w) A (.call (.ref fI) ⟨[.ref x, v], []⟩) R s := by
  obtain ⟨oc, od, kV, doc, pm, an, ct, ccl, cdd, vs, ccs, osl, csl, cl, cld, file, tf, qual, cda, cc, j, p1, p2, q1, q2, q3, q4, q5, q6, q7, q8, q9, q10, ho, hcd, hcode, hvs, hfile, hcell, hline⟩ := T.fn
  obtain ⟨nm, q, N, bs, bm, sn, sub, ab, col, dd, k0, k1, k2, k3, k5, hC, hbm⟩ := T.cls
  have hcl : clsIn K C = some { name := nm, bases := bs, mro := .ref C :: bm, ns := N, qualname := q, hasDict := true, slotNames := sn, subclasses := sub, abstract := ab, collection := col, hasDel := false } := by unfold clsIn; rw [hC] <;> rfl
  have ne1 := T.ne1
  have nb : (fld == ("self" : Str)) = false := by simpa using ne1
  refine ks_codeAny_call_defAt (binds := [("self", .ref x), (fld, v)]) (body := iB fld txt j q1 q2 q3 q4 q5 q6 q7 q8 q9 q10) hroom (X _ _ ho) rfl hlim (codeRec_of X hcd) rfl (BindsTo.of_eq (T.binds _ _ _ _ _ _ _ _ _ _ _ _ _ _ _ _ _ _ _ _ _ _ _)) ?_ ?_ (fun h₁ hns k => ?_)
  · intro y hy
    simp only [iS, List.mem_cons, List.mem_nil_iff, or_false] at hy
    rcases hy with rfl | rfl | rfl | rfl <;> simp
  · intro y hy
    simp only [List.mem_cons, List.mem_nil_iff, or_false] at hy
    rcases hy with rfl | rfl
    · rfl
    · exact T.kin
  have X₁ : K.In h₁ := X.keeps k
  have hx₁ := k _ _ hx
  have hself : (fun y => ([((PySem.Str.ofString "self"), Value.ref x), (fld, v)] : List (Str × Value)).reverse.lookup y) ("self" : Str) = some (.ref x) := by
    show List.lookup ("self" : Str) [(fld, v), ((PySem.Str.ofString "self"), Value.ref x)] = _
    have : (("self" : Str) == fld) = false := by simpa using fun z => ne1 z.symm
    simp [List.lookup, this]
  have hfld : (fun y => ([((PySem.Str.ofString "self"), Value.ref x), (fld, v)] : List (Str × Value)).reverse.lookup y) fld = some v := by
    show List.lookup fld [(fld, v), ((PySem.Str.ofString "self"), Value.ref x)] = _
    simp [List.lookup]
  show wpAt (model prog w) (A.deeper (ksEnv qual (iS fld) s.heap.objs.size fI (.ref cda) cc)) (.func (iB fld txt j q1 q2 q3 q4 q5 q6 q7 q8 q9 q10) (ksEnv qual (iS fld) s.heap.objs.size fI (.ref cda) cc)) (execs (iB fld txt j q1 q2 q3 q4 q5 q6 q7 q8 q9 q10) (ksEnv qual (iS fld) s.heap.objs.size fI (.ref cda) cc)) _ _ _
  have he : eval (.Call (.Attribute (.Call (.Name "super" q1) [] [] q2) "__init__" q3) [.Constant (.str txt) j q4] [] q5) (ksEnv qual (iS fld) s.heap.objs.size fI (.ref cda) cc) = (do
      let ov ← attributeBase (.Call (.Name "super" q1) [] [] q2) "__init__" (ksEnv qual (iS fld) s.heap.objs.size fI (.ref cda) cc) (eval (.Call (.Name "super" q1) [] [] q2) (ksEnv qual (iS fld) s.heap.objs.size fI (.ref cda) cc))
      standAt q3.atName
      let (f, first) ← holding [ov] (getMethod ov "__init__" (L2.plainOf (.Call (.Name "super" q1) [] [] q2) (ksEnv qual (iS fld) s.heap.objs.size fI (.ref cda) cc)))
      callWith q5 f first (backTo q5 (starEach [.Constant (.str txt) j q4] (ksEnv qual (iS fld) s.heap.objs.size fI (.ref cda) cc))) []) := by
    show (attributeBase _ _ _ _ >>= fun ov => standAt _ >>= fun _ => methodCall _ _ _ _ _ ov _ _ _) = _
    congr 1
    funext ov
    congr 1
    funext _
    exact L2.mcall_line rfl hline
  refine ks_wpAt_execs_cons (ks_wpAt_Expr_any (ks_wpAt_MethodCall ?_ he))
  refine ks_wpAt_super_base (env := ksEnv qual (iS fld) s.heap.objs.size fI (.ref cda) cc) (ar := { arg := "self", annotation := none, pos := p1 }) T.kSup T.kCls (by decide) rfl (X₁ _ _ ho) rfl rfl rfl (X₁ _ _ hcode) rfl hvs hfile T.top ?_
  have hCc := X₁ _ _ hC
  refine ks_loadName_global rfl T.kSup (loadGlobal_builtin (env := ksEnv qual (iS fld) s.heap.objs.size fI (.ref cda) cc) (hG.keeps k) T.free (hB.keeps k) ((hbb _ (by decide +kernel)).trans (show bootBuiltins "super" = some (.type "super") by decide +kernel)) ⟨rfl, ?_⟩)
  refine wpAny_loadName_free rfl T.kCls rfl ⟨_, X₁ _ _ hcell, rfl⟩ ?_
  refine wpAny_loadName_local rfl rfl hns hself ?_
  refine ks_wpAny_isType_cls hCc rfl ⟨rfl, ?_⟩
  refine ks_wpAny_call_super hCc rfl hx₁ rfl (fun c e => nomatch e) (looks_mroIn X₁ T.self_) (fun h₂ hso k₂ => ?_)
  have X₂ : K.In h₂ := X₁.keeps k₂
  have hx₂ := k₂ _ _ hx₁
  have I₂ : InstAt h₂ x (excO C t0) C none := ⟨hx₂, rfl, rfl, trivial⟩
  have hin : Looks (model prog w) h₂ (isInstance (.ref x) (.type "ValueError")) true := I₂.type.andThen (looks_subIn X₂ T.veC)
  have hsup := T.sup
  unfold ks_superIn at hsup
  rw [hcl] at hsup
  refine kxs_getMethod kxs_ValueError hso (looks_opaque X₂ T.opq) (l₀ := .ref C :: bm) (fun A Q E s k q => wpAny_bind ((looks_clsIn X₂ hcl) A _ E s k (wpAny_pure q))) rfl X₂ hsup hin (ks_ne X₂ I₂ hcl) (by decide) ?_
  have k₃ : ∀ b o, h₂.get? b = some o → (h₂.push (kxs_mw "ValueError.__init__" x)).get? b = some o := fun b o e => Heap.get?_push_of_some _ e
  have hu : (h₂.push (kxs_mw "ValueError.__init__" x)).get? h₂.objs.size = some (kxs_mw "ValueError.__init__" x) := Heap.get?_push_at rfl rfl
  refine kxs_callWith (i := "ValueError.__init__") (x := x) rfl (evalArgs_plain (Calls.spliced_cons (Calls.Constant_str (k := j) (pos := q4) (Calls.spliced_nil ⟨hu, ?_⟩))))
  refine call_mw (k₃ _ _ (k₂ _ _ hCc)) (k₃ _ _ hx₂) hu (by rw [sizeLine_eq]; exact (by decide : 1 ≤ 16777216)) (fun h₄ t1 k₄ hx₄ => ?_)
  have k04 : ∀ b o, b ≠ x → h₁.get? b = some o → h₄.get? b = some o := fun b o hb e => k₄ b o hb (k₃ _ _ (k₂ _ _ e))
  have X₄ : K.In h₄ := fun a o e => k04 a o (fun z => by rw [z, hnx] at e; cases e) (X₁ a o e)
  have hxL : s.heap.objs.size ≠ x := Nat.ne_of_gt (Heap.lt_size hx)
  have hns₄ : h₄.Ns s.heap.objs.size (fun y => ([((PySem.Str.ofString "self"), Value.ref x), (fld, v)] : List (Str × Value)).reverse.lookup y) := by
    obtain ⟨o, es, ep, e, r⟩ := hns
    exact ⟨o, es, ep, k04 _ _ hxL e, r⟩
  -- self.fld = fld
  show wpAt (model prog w) _ _ (execs [.Assign [.Attribute (.Name "self" q7) fld q8] (.Name fld q9) q10] _) _ _ _
  refine ks_wpAt_execs_cons (ks_wpAt_Assign_Attr (wpAt_of_wpAny (wpAny_Name (wpAny_loadName_local rfl T.kin hns₄ hfld (wpAny_Name (wpAny_loadName_local rfl rfl hns₄ hself ?_) (by decide))) T.ne2)))
  refine set_plain X₄ (ox := excO C t1) (od := none) ⟨hx₄, rfl, rfl, trivial⟩ T.sa ?_
  refine exc_osa X₄ hx₄ hcl (show refsVE (.ref C :: bm) = true from hbm) rfl T.noN (fun h₅ tk₅ dx k₅ dn dne hx₅ hn₅ => ?_)
  have z : s.heap.objs.size ≤ h₄.objs.size := by
    obtain ⟨o, es, ep, e, r⟩ := hns₄
    exact Nat.le_of_lt (Heap.lt_size e)
  show wpAt (model prog w) _ _ (execs [] _) _ _ _
  exact wpAt_of_wpAny (wpAny_execs_nil (hq h₅ tk₅ dx t1 ⟨fun b o hb e => k₅ b o hb (k04 b o hb (k b o e)), hx₅, Nat.le_trans z dn, dne, hn₅⟩))
end
end KwX
end PySem

set_option Elab.async false
set_option linter.all false
set_option maxRecDepth 100000
namespace Kw
open PySem PySem.Spec PyProof.Rows L2

/-! ### zip and enumerate of lists and tuples alike -/
/-- a list (false), a tuple (true) -/
def Src (K : PySem.W.Frag) (k : Bool) (H : Hp) (a : Addr) (xs : List V) : Prop := match k with
  | true => SqT K H a xs
  | false => SqL K H a xs
def ItAt (k : Bool) (h : Heap) (it a : Addr) (i : Nat) : Prop := match k with
  | true => h.IsTupleIter it a i
  | false => h.IsListIter it a i
def Holds (k : Bool) (h : Heap) (a : Addr) (items : Array Value) : Prop := match k with
  | true => h.IsTuple a items
  | false => h.IsList a items
theorem draws_k {prog : Program} {w : World} {A : Around} (k : Bool) (hh : A.handled = none) (it a : Addr) (hne : a ≠ it) (items : Array Value) :
    Draws prog w A it [it, a] items.size (fun i v => items[i]? = some v) (fun i h => ItAt k h it a i ∧ Holds k h a items) := by
  cases k
  · exact Draws.list hh it a hne items
  · exact Draws.tuple hh it a hne items
def itO (k : Bool) (a : Addr) : Obj := match k with
  | true => { cls := .type "tuple_iterator", data := .fields #[.ref a, .int 0 0] }
  | false => { cls := .type "list_iterator", data := .fields #[.ref a, .int 0 0] }
theorem begins_k (k : Bool) (a : Addr) (items : Array Value) : Begins (.ref a) (itO k a) fun h => Holds k h a items := by
  cases k
  · exact begins_list a items
  · exact begins_tuple a items
theorem itAt_new {k : Bool} {h : Heap} {it a : Addr} (e : h.get? it = some (itO k a)) : ItAt k h it a 0 := by
  cases k
  · exact ⟨_, e, rfl, rfl⟩
  · exact ⟨_, e, rfl, rfl⟩
theorem ItAt.obj {k : Bool} {h : Heap} {it a : Addr} {i : Nat} (e : ItAt k h it a i) : ∃ o, h.get? it = some o ∧ ∀ v, o.data ≠ .cell v := by
  cases k
  · obtain ⟨o, h1, _, d⟩ := e
    exact ⟨o, h1, fun v q => by rw [d] at q; cases q⟩
  · obtain ⟨o, h1, _, d⟩ := e
    exact ⟨o, h1, fun v q => by rw [d] at q; cases q⟩
theorem ItAt.keep {k : Bool} {h h' : Heap} {it a : Addr} {i : Nat} (e : ItAt k h it a i) (q : ∀ o, h.get? it = some o → h'.get? it = some o) : ItAt k h' it a i := by
  cases k
  · obtain ⟨o, h1, r⟩ := e
    exact ⟨o, q _ h1, r⟩
  · obtain ⟨o, h1, r⟩ := e
    exact ⟨o, q _ h1, r⟩
section
variable {X : Cx} {pins : List (Addr × Obj)} {σ : L2.St} {H : Hp} {s : Shared}
theorem src_has {k : Bool} {a : Addr} {xs : List V} (I : Inv X pins σ H s) (h : Src X.K k H a xs) : ∃ its : List Value, Vals xs its ∧ Holds k s.heap a its.toArray := by
  cases k
  · obtain ⟨its, rv, p, _⟩ := I.list h
    exact ⟨its, rv, p.isList⟩
  · obtain ⟨its, rv, p, _⟩ := I.tuple h
    exact ⟨its, rv, p⟩
theorem src_inj {k : Bool} {a : Addr} {xs ys : List V} (I : Inv X pins σ H s) (h : Src X.K k H a xs) (h' : Src X.K k H a ys) : xs = ys := by
  cases k
  · exact I.list_inj h h'
  · exact I.tuple_inj h h'
theorem Holds.lt {k : Bool} {h : Heap} {a : Addr} {its : Array Value} (e : Holds k h a its) : a < h.objs.size := by
  cases k
  · obtain ⟨o, h1, _⟩ := e
    exact Heap.lt_size h1
  · obtain ⟨o, h1, _⟩ := e
    exact Heap.lt_size h1
end
def Itq (K : PySem.W.Frag) (k1 k2 : Bool) (a b : Addr) : It :=
  ⟨fun i H => ∃ (xs ys : List V) (x y : V), Src K k1 H a xs ∧ Src K k2 H b ys ∧ xs[i]? = some x ∧ ys[i]? = some y,
    fun i H v H' => ∃ T x y, v = .ref T ∧ H T = none ∧ H' = upd H T (.tup [x, y]) ∧ (∀ xs, Src K k1 H a xs → xs[i]? = some x) ∧ ∀ ys, Src K k2 H b ys → ys[i]? = some y,
    fun i H => ∃ xs ys : List V, Src K k1 H a xs ∧ Src K k2 H b ys ∧ i ≤ xs.length ∧ i ≤ ys.length ∧ (i = xs.length ∨ i = ys.length)⟩
theorem turn_zq {P : Program} {w : World} {K : PySem.W.Frag} {elts : List Expr} {kk : Nat} {tpos : Pos} {a b z TI TO i1 i2 : Addr} {k1 k2 : Bool} (D : ZipSep2 z TI TO i1 i2 [i1, a] [i2, b]) (na : a ≠ i1) (nb : b ≠ i2) :
    Turn P w K (.Tuple elts kk tpos) (Itq K k1 k2 a b) [z, TI, TO, i1, i2] z (fun i h => IsZip h z TI TO .none ∧ IsTupOf2 h TI (.ref i1) (.ref i2) ∧ (∃ x y, IsTupOf2 h TO x y) ∧ ItAt k1 h i1 a i ∧ ItAt k2 h i2 b i) where
  mem := by simp
  obj := fun i h st c hc => by
    obtain ⟨hz, hTI, ⟨x, y, hTO⟩, h1, h2⟩ := st
    have e' : c = z ∨ c = TI ∨ c = TO ∨ c = i1 ∨ c = i2 := by simpa using hc
    rcases e' with q | q | q | q | q
    · rw [q]; exact ⟨_, hz, fun v q => nomatch q⟩
    · rw [q]; exact ⟨_, hTI, fun v q => nomatch q⟩
    · rw [q]; exact ⟨_, hTO, fun v q => nomatch q⟩
    · rw [q]; exact h1.obj
    · rw [q]; exact h2.obj
  keep := fun i h h' st k => by
    obtain ⟨hz, hTI, ⟨x, y, hTO⟩, h1, h2⟩ := st
    exact ⟨k z (by simp) _ hz, k TI (by simp) _ hTI, ⟨x, y, k TO (by simp) _ hTO⟩, h1.keep fun o q => k i1 (by simp) o q, h2.keep fun o q => k i2 (by simp) o q⟩
  item := by
    intro X hP hw hK hc i pins s σ H E I hf st hg
    subst hP hw hK
    obtain ⟨hz, hTI, ⟨x0, y0, hTO⟩, h1, h2⟩ := st
    obtain ⟨xs, ys, x, y, hqx, hqy, hx, hy⟩ := hg
    obtain ⟨its, rv, p⟩ := src_has I hqx
    obtain ⟨its2, rv2, p2⟩ := src_has I hqy
    obtain ⟨u, hu, ru⟩ := rv.get hx
    obtain ⟨u2, hu2, ru2⟩ := rv2.get hy
    have hzl : z < s.heap.objs.size := Heap.lt_size hz
    have lt1 : i < its.toArray.size := by simpa using (List.getElem?_eq_some_iff.mp hu).1
    have lt2 : i < its2.toArray.size := by simpa using (List.getElem?_eq_some_iff.mp hu2).1
    refine wpAny_pyNext_zipD2_item D (draws_k (prog := X.prog) (w := X.w) (A := X.A.in1) k1 (show X.A.in1.handled = none from I.ok.hd hc) i1 a na its.toArray) (draws_k (prog := X.prog) (w := X.w) (A := X.A.in1) k2 (show X.A.in1.handled = none from I.ok.hd hc) i2 b nb its2.toArray) hz hTI hTO ⟨h1, p⟩ ⟨h2, p2⟩ lt1 lt2 fun v1 v2 h' tk hv1 hv2 z' TO' d1 d2 hT hsz hk => ?_
    obtain rfl : u = v1 := by rw [List.getElem?_toArray, hu] at hv1; exact Option.some.inj hv1
    obtain rfl : u2 = v2 := by rw [List.getElem?_toArray, hu2] at hv2; exact Option.some.inj hv2
    refine ⟨_, rfl, wpAny_letOwnedTupleGo_zip (s := { s with heap := h', toks := tk }) z' fun h'' z'' sb => ?_⟩
    have hT2 : h''.get? s.heap.objs.size = some { cls := .type "tuple", data := .seq #[u, u2] } := (sb.2 _ (Nat.ne_of_gt hzl)).trans hT
    have new : ObjOk X.prog X.w (upd H s.heap.objs.size (.tup [x, y])) h'' s.heap.objs.size (.tup [x, y]) :=
      ⟨by show 2 ≤ sizeLine; decide, [u, u2], .cons ru (.cons ru2 .nil), ⟨_, hT2, rfl, _, rfl⟩⟩
    have I1 : Inv X pins σ (upd H s.heap.objs.size (.tup [x, y])) { s with heap := h'', toks := tk } :=
      I.turnedNew (t' := tk) (ch := [z, TI, TO, i1, i2]) (fun c o hb q => (sb.2 c (fun q' => hb (by simp [q']))).trans (hk c o (fun q' => hb (by simp [q'])) (fun q' => hb (by simp [q'])) (fun q' => hb (by simp [q'])) (fun q' => hb (by simp [q'])) q)) hf (Nat.le_refl _) new
    refine ⟨.ref s.heap.objs.size, _, I1, rfl, ⟨_, x, y, rfl, I.hok.fresh (Nat.le_refl _), rfl, fun l hl => by rw [src_inj I hl hqx]; exact hx, fun l hl => by rw [src_inj I hl hqy]; exact hy⟩, ⟨z'', ?_, ⟨u, u2, ?_⟩, ?_, ?_⟩, fun c hcm => ?_⟩
    · exact (sb.2 _ D.TIz).trans (hk _ _ D.TIz D.TITO D.TIi1 D.TIi2 hTI)
    · exact (sb.2 _ D.TOz).trans TO'
    · exact d1.1.keep fun o q => (sb.2 _ (Ne.symm D.zi1)).trans q
    · exact d2.1.keep fun o q => (sb.2 _ (Ne.symm D.zi2)).trans q
    · have hlt : c < s.heap.objs.size := by
        have e' : c = z ∨ c = TI ∨ c = TO ∨ c = i1 ∨ c = i2 := by simpa using hcm
        rcases e' with q | q | q | q | q
        · rw [q]; exact hzl
        · rw [q]; exact Heap.lt_size hTI
        · rw [q]; exact Heap.lt_size hTO
        · rw [q]; obtain ⟨_, e1, _⟩ := h1.obj; exact Heap.lt_size e1
        · rw [q]; obtain ⟨_, e2, _⟩ := h2.obj; exact Heap.lt_size e2
      rw [upd_ne (Nat.ne_of_lt hlt)]
      exact (hf c hcm).1
  done := by
    intro X hP hw hK hc i pins s σ H E I hf st hg
    subst hP hw hK
    obtain ⟨hz, hTI, ⟨x0, y0, hTO⟩, h1, h2⟩ := st
    obtain ⟨xs, ys, hqx, hqy, le1, le2, hend⟩ := hg
    obtain ⟨its, rv, p⟩ := src_has I hqx
    obtain ⟨its2, rv2, p2⟩ := src_has I hqy
    have l1 := rv.length
    have l2 := rv2.length
    refine wpAny_pyNext_zipD2_end D (draws_k (prog := X.prog) (w := X.w) (A := X.A.in1) k1 (show X.A.in1.handled = none from I.ok.hd hc) i1 a na its.toArray) (draws_k (prog := X.prog) (w := X.w) (A := X.A.in1) k2 (show X.A.in1.handled = none from I.ok.hd hc) i2 b nb its2.toArray) hz hTI hTO ⟨h1, p⟩ ⟨h2, p2⟩ (by simp; omega) (by simp; omega) (by simp; omega) fun h' tk hk => ⟨rfl, I.turnedL (t' := tk) (ch := [z, TI, TO, i1, i2]) (fun c o hb q =>
      hk c o (fun q' => hb (by simp [q'])) (fun q' => hb (by simp [q'])) (fun q' => hb (by simp [q'])) (fun q' => hb (by simp [q'])) q) hf⟩
  self := fun A i s Q E st h => wpAny_pyIter_zip st.1 h

def iZq (K : PySem.W.Frag) (ta : TA) : TI := fun σ H R => ta σ H fun vs H1 => ∃ a b xs ys k1 k2, vs = [.ref a, .ref b] ∧ Src K k1 H1 a xs ∧ Src K k2 H1 b ys ∧ R (Itq K k1 k2 a b) H1
theorem pi_zq {X : Cx} {e e2 : Expr} {ta : TA} {p pos tpos : Pos} {elts : List Expr} {kk : Nat} (hg : Gl X "zip") (hm : X.mg "zip" = none) (ha : PA X [e, e2] ta)
    (hs : starEach [e, e2] X.env = (false, eval e X.env) :: starEach [e2] X.env := by rfl) (hpl : (backTo pos (starEach [e2] X.env)).any (·.1) = false := by rfl) :
    PI X (.Tuple elts kk tpos) (.Call (.Name "zip" p) [e, e2] [] pos) (iZq X.K ta) := by
  refine ⟨fun pins s σ H R I h => ?_⟩
  refine Call_ (ld_blt I hg hm PyProof.Rows.boot_zip (PyProof.Rows.callWith_type1 (thn (ha.run pos pins s σ H _ I h) fun us s1 ⟨vs, H1, I1, r1, q1⟩ => ?_) hs hpl))
  obtain ⟨a, b, xs, ys, k1, k2, ex, hqx, hqy, q⟩ := q1
  subst ex
  cases r1 with
  | cons r rr =>
    cases rr with
    | cons r' rr =>
      cases rr
      cases r
      cases r'
      have fresh5 : ∀ c, c ∈ [s1.heap.objs.size + 4, s1.heap.objs.size + 2, s1.heap.objs.size + 3, s1.heap.objs.size, s1.heap.objs.size + 1] → FpOk X pins H1 c := fun c hcm => by
        have e' : c = s1.heap.objs.size + 4 ∨ c = s1.heap.objs.size + 2 ∨ c = s1.heap.objs.size + 3 ∨ c = s1.heap.objs.size ∨ c = s1.heap.objs.size + 1 := by simpa using hcm
        have hle : s1.heap.objs.size ≤ c := by omega
        exact I1.fpOk hle (I1.hok.fresh hle)
      obtain ⟨its, rv, p1⟩ := src_has I1 hqx
      obtain ⟨its2, rv2, p2⟩ := src_has I1 hqy
      have la := p1.lt
      have lb := p2.lt
      refine zip_begins2 (begins_k k1 a its.toArray) (begins_k k2 b its2.toArray) p1 p2 fun h' hz hTI hTO h1 h2 hsz hk => wpAny_pyIter_zip hz ?_
      have I2 : Inv X pins σ H1 { s1 with heap := h' } := I1.kept (t' := s1.toks) hk
      exact ⟨s1.heap.objs.size + 4, [s1.heap.objs.size + 4, s1.heap.objs.size + 2, s1.heap.objs.size + 3, s1.heap.objs.size, s1.heap.objs.size + 1], _, _, H1, rfl, I2,
        turn_zq (zip_sep2 (N := s1.heap.objs.size) (fp1 := [a]) (fp2 := [b]) (fun c hc => (List.mem_singleton.mp hc).symm ▸ la) (fun c hc => (List.mem_singleton.mp hc).symm ▸ lb)) (Nat.ne_of_lt la) (Nat.ne_of_lt (Nat.lt_succ_of_lt lb)), ⟨hz, hTI, ⟨_, _, hTO⟩, itAt_new h1, itAt_new h2⟩, fresh5, q⟩

set_option maxHeartbeats 1000000 in
theorem meets_enum1 {v : Value} {o : Obj} {H : Heap → Prop} (B : Begins v o H) :
    Meets (Builtin.«enumerate.__new__» ⟨[.type "enumerate", v], []⟩) (fun _ R s => H s.heap ∧
      R (.ok (.ret (.ref (s.heap.push o).objs.size))) { s with heap := (s.heap.push o).push { cls := .type "enumerate", data := .fields #[.none, .bool false, .ref s.heap.objs.size, rawInt 0, .none, .none] } }) :=
  .of_wp fun prog w A R s h => by
    obtain ⟨hp, g, d, tk, os⟩ := s; obtain ⟨h1, h⟩ := h
    have hsub := sub_enumerate
    have q1 : ∀ {A' : Around} {E : Value → Shared → Prop} {Q : Value → Shared → Prop}, Q (.ref hp.objs.size) ⟨hp.push o, g, d, tk, os⟩ → wpAny (model prog w) A' (pyIter v) Q E ⟨hp, g, d, tk, os⟩ :=
      fun q => B.iter prog w _ _ ⟨hp, g, d, tk, os⟩ _ h1 q
    wp_walk using q1
    refine wpAny_stack_any fun st => wpAny_pure ?_
    split
    · rename_i c _ _ _ _ _
      cases (c == Value.type "enumerate")
      · wp_walk using q1
        exact ⟨_, rfl, h⟩
      · wp_walk using q1
        exact ⟨_, rfl, h⟩
    · wp_walk using q1
      exact ⟨_, rfl, h⟩
theorem call_enum1 {prog : Program} {w : World} {A : Around} {E : Value → Shared → Prop} {s : Shared} {v : Value} {o : Obj} {H : Heap → Prop} {Q : Value → Shared → Prop} (B : Begins v o H) (h1 : H s.heap)
    (h : ∀ h', IsEnum h' (s.heap.objs.size + 1) s.heap.objs.size 0 .none → h'.get? s.heap.objs.size = some o → h'.objs.size = s.heap.objs.size + 2 →
      (∀ b o, s.heap.get? b = some o → h'.get? b = some o) → Q (.ref (s.heap.objs.size + 1)) { s with heap := h' }) :
    wpAny (model prog w) A (call (.type "enumerate") [v]) Q E s := by
  refine callType_new F.called_enumerate (by decide) (F.typeCall_enumerate_1 _) (F.newCall_enumerate_1 _) (fun obj => F.args_object_init_2 obj _) F.entry_enumerate_new
    (meets_enum1 B) ⟨h1, ?_⟩
  have hz : (s.heap.push o).objs.size = s.heap.objs.size + 1 := Heap.size_push ..
  show _ ∧ _
  rw [hz]
  have he : IsEnum ((s.heap.push o).push { cls := .type "enumerate", data := .fields #[.none, .bool false, .ref s.heap.objs.size, rawInt 0, .none, .none] }) (s.heap.objs.size + 1) s.heap.objs.size 0 .none := by
    have := Heap.get?_push_size (s.heap.push o) (o := { cls := .type "enumerate", data := .fields #[.none, .bool false, .ref s.heap.objs.size, rawInt 0, .none, .none] }) rfl
    rw [hz] at this; exact this
  exact ⟨⟨_, he, rfl⟩, h _ he (Heap.get?_push_of_some _ (Heap.get?_push_size _ B.free)) (by rw [Heap.size_push, hz]) fun b o x => Heap.get?_push_of_some _ (Heap.get?_push_of_some _ x)⟩
/-! enumerate -/
def Ieq (K : PySem.W.Frag) (k : Bool) (a : Addr) : It :=
  ⟨fun i H => ∃ (xs : List V) (x : V), Src K k H a xs ∧ xs[i]? = some x, fun i H v H' => ∃ T x, v = .ref T ∧ H T = none ∧ H' = upd H T (.tup [.int (i : Nat), x]) ∧ ∀ xs, Src K k H a xs → xs[i]? = some x, fun i H => ∃ xs : List V, Src K k H a xs ∧ xs.length = i⟩
theorem turn_eq {P : Program} {w : World} {K : PySem.W.Frag} {elts : List Expr} {kk : Nat} {tpos : Pos} {k : Bool} {a e it : Addr} (na : a ≠ it) (hne : e ≠ it) (hea : e ≠ a) :
    Turn P w K (.Tuple elts kk tpos) (Ieq K k a) [e, it] e (fun i h => (∃ old, IsEnum h e it ((i : Nat) : Int) old) ∧ ItAt k h it a i) where
  mem := by simp
  obj := fun i h st b hb => by
    obtain ⟨⟨old, he⟩, h1⟩ := st
    have e' : b = e ∨ b = it := by simpa using hb
    rcases e' with z | z
    · rw [z]; exact ⟨_, he, fun v q => nomatch q⟩
    · rw [z]; exact h1.obj
  keep := fun i h h' st k => let ⟨⟨old, he⟩, hi⟩ := st; ⟨⟨old, k e (by simp) _ he⟩, hi.keep fun o q => k it (by simp) o q⟩
  item := by
    intro X hP hw hK hc i pins s σ H E I hf st hg
    subst hP hw hK
    obtain ⟨⟨old, he⟩, hit⟩ := st
    obtain ⟨xs, x, hq, hx⟩ := hg
    obtain ⟨its, rv, p⟩ := src_has I hq
    obtain ⟨u, hu, ru⟩ := rv.get hx
    have hel : e < s.heap.objs.size := Heap.lt_size he
    have hil : it < s.heap.objs.size := by obtain ⟨_, q, _⟩ := hit.obj; exact Heap.lt_size q
    have lt1 : i < its.toArray.size := by simpa using (List.getElem?_eq_some_iff.mp hu).1
    refine wpAny_pyNext_enum_itemC (draws_k (prog := X.prog) (w := X.w) (A := X.A.in1) k (show X.A.in1.handled = none from I.ok.hd hc) it a na its.toArray) he ⟨hit, p⟩ lt1 hne (by simp; exact ⟨hne, hea⟩) fun v h' tk hv ho hst hT hsz hk => ?_
    obtain rfl : u = v := by rw [List.getElem?_toArray, hu] at hv; exact Option.some.inj hv
    refine ⟨_, rfl, wpAny_letOwnedTupleGo_enum (s := { s with heap := h', toks := tk + 1 }) ho fun h'' he' sb => ?_⟩
    have hT2 : h''.get? s.heap.objs.size = some { cls := .type "tuple", data := .seq #[.int i tk, u] } := (sb.2 _ (Nat.ne_of_gt hel)).trans hT
    have new : ObjOk X.prog X.w (upd H s.heap.objs.size (.tup [.int (i : Nat), x])) h'' s.heap.objs.size (.tup [.int (i : Nat), x]) :=
      ⟨by show 2 ≤ sizeLine; decide, [.int i tk, u], .cons ⟨_, rfl⟩ (.cons ru .nil), ⟨_, hT2, rfl, _, rfl⟩⟩
    have I1 : Inv X pins σ (upd H s.heap.objs.size (.tup [.int (i : Nat), x])) { s with heap := h'', toks := tk + 1 } :=
      I.turnedNew (ch := [e, it]) (fun b ob hb q => (sb.2 b (fun z => hb (by simp [z]))).trans (hk b ob (fun z => hb (by simp [z])) (fun z => hb (by simp [z])) q)) hf (Nat.le_refl _) new
    refine ⟨.ref s.heap.objs.size, _, I1, rfl, ⟨_, x, rfl, I.hok.fresh (Nat.le_refl _), rfl, fun ys hy => by rw [src_inj I hy hq]; exact hx⟩, ⟨⟨u, ?_⟩, hst.1.keep fun o q => (sb.2 it (Ne.symm hne)).trans q⟩, fun b hb => ?_⟩
    · have e1 : ((i + 1 : Nat) : Int) = (i : Int) + 1 := by omega
      rw [e1]; exact he'
    · have hb' : b < s.heap.objs.size := by
        have e' : b = e ∨ b = it := by simpa using hb
        rcases e' with z | z
        · rw [z]; exact hel
        · rw [z]; exact hil
      rw [upd_ne (Nat.ne_of_lt hb')]
      exact (hf b hb).1
  done := by
    intro X hP hw hK hc i pins s σ H E I hf st hg
    subst hP hw hK
    obtain ⟨⟨old, he⟩, hit⟩ := st
    obtain ⟨xs, hq, hx⟩ := hg
    obtain ⟨its, rv, p⟩ := src_has I hq
    obtain ⟨f0, f1, f2, f3, f4, f5⟩ := hf it (by simp)
    have hl := rv.length
    have hi : i = its.toArray.size := by simp; omega
    subst hi
    exact wpAny_pyNext_enum_endD (draws_k (prog := X.prog) (w := X.w) (A := X.A.in1) k (show X.A.in1.handled = none from I.ok.hd hc) it a na its.toArray) he ⟨hit, p⟩ fun h' eb => ⟨rfl, I.turned (t' := s.toks) (fun b o hb q => eb b o hb q) f0 f1 f3 f4 f5⟩
  self := fun A i s Q E st h => let ⟨⟨_, he⟩, _⟩ := st; wpAny_pyIter_enum he h
def iEq' (K : PySem.W.Frag) (ta : TA) : TI := fun σ H R => ta σ H fun vs H1 => ∃ a xs k, vs = [.ref a] ∧ Src K k H1 a xs ∧ R (Ieq K k a) H1
theorem pi_eq' {X : Cx} {e : Expr} {ta : TA} {p pos tpos : Pos} {elts : List Expr} {kk : Nat} (hg : Gl X "enumerate") (hm : X.mg "enumerate" = none) (ha : PA X [e] ta) (hs : starEach [e] X.env = [(false, eval e X.env)] := by rfl) :
    PI X (.Tuple elts kk tpos) (.Call (.Name "enumerate" p) [e] [] pos) (iEq' X.K ta) := by
  refine ⟨fun pins s σ H R I h => ?_⟩
  refine Call_ (ld_blt I hg hm boot_enumerate (PyProof.Rows.callWith_type1 (thn (ha.run pos pins s σ H _ I h) fun us s1 ⟨vs, H1, I1, r1, q1⟩ => ?_) hs rfl))
  obtain ⟨a, xs, k, ex, hq, q⟩ := q1
  subst ex
  cases r1 with
  | cons r rr =>
    cases rr
    cases r
    obtain ⟨its, rv, p'⟩ := src_has I1 hq
    have la := p'.lt
    refine call_enum1 (begins_k k a its.toArray) p' fun h' he hit hsz hk => wpAny_pyIter_enum he ?_
    have I2 : Inv X pins σ H1 { s1 with heap := h' } := I1.kept (t' := s1.toks) hk
    refine ⟨s1.heap.objs.size + 1, [s1.heap.objs.size + 1, s1.heap.objs.size], _, _, H1, rfl, I2, turn_eq (Nat.ne_of_lt la) (Nat.succ_ne_self _) (Nat.ne_of_gt (Nat.lt_succ_of_lt la)), ⟨⟨.none, he⟩, itAt_new hit⟩, fun b hb => ?_, q⟩
    have e' : b = s1.heap.objs.size + 1 ∨ b = s1.heap.objs.size := by simpa using hb
    have hle : s1.heap.objs.size ≤ b := by
      rcases e' with z | z
      · rw [z]; exact Nat.le_add_right _ _
      · rw [z]; exact Nat.le_refl _
    exact I1.fpOk hle (I1.hok.fresh hle)

/-! ### by data -/
/-- the items of zip, of enumerate: pairs -/
def zipD : List D → List D → List D
  | x :: xs, y :: ys => .tup [x, y] :: zipD xs ys
  | _, _ => []
def enumD : Nat → List D → List D
  | _, [] => []
  | n, x :: xs => .tup [.int (n : Int), x] :: enumD (n + 1) xs
theorem zipD_length : ∀ (xs ys : List D), (zipD xs ys).length = min xs.length ys.length
  | [], ys => by simp [zipD]
  | x :: xs, [] => by simp [zipD]
  | x :: xs, y :: ys => by simp [zipD, zipD_length xs ys] <;> omega
theorem zipD_get : ∀ (xs ys : List D) (i : Nat) {d : D}, (zipD xs ys)[i]? = some d → ∃ x y, xs[i]? = some x ∧ ys[i]? = some y ∧ d = .tup [x, y]
  | [], ys, i, d, h => by simp [zipD] at h
  | x :: xs, [], i, d, h => by simp [zipD] at h
  | x :: xs, y :: ys, 0, d, h => by
    simp [zipD] at h
    exact ⟨x, y, rfl, rfl, h.symm⟩
  | x :: xs, y :: ys, i + 1, d, h => by
    have h' : (zipD xs ys)[i]? = some d := by simpa [zipD] using h
    obtain ⟨a, b, e1, e2, e3⟩ := zipD_get xs ys i h'
    exact ⟨a, b, by simpa using e1, by simpa using e2, e3⟩
theorem enumD_length : ∀ (n : Nat) (xs : List D), (enumD n xs).length = xs.length
  | n, [] => rfl
  | n, x :: xs => by simp [enumD, enumD_length (n + 1) xs]
theorem enumD_get : ∀ (n : Nat) (xs : List D) (i : Nat) {d : D}, (enumD n xs)[i]? = some d → ∃ x, xs[i]? = some x ∧ d = .tup [.int ((n + i : Nat) : Int), x]
  | n, [], i, d, h => by simp [enumD] at h
  | n, x :: xs, 0, d, h => by
    simp [enumD] at h
    exact ⟨x, rfl, h.symm⟩
  | n, x :: xs, i + 1, d, h => by
    have h' : (enumD (n + 1) xs)[i]? = some d := by simpa [enumD] using h
    obtain ⟨a, e1, e2⟩ := enumD_get (n + 1) xs i h'
    refine ⟨a, by simpa using e1, ?_⟩
    rw [e2, show n + 1 + i = n + (i + 1) by omega]
section
variable {K : PySem.W.Frag} {mg : Str → Option Value} {T : List (Addr × Str)} {w w0 : Wd} {μ : Mem} {H : Hp}
/-- what is walked: it stands whatever comes -/
def SrcW (K : PySem.W.Frag) (w0 : Wd) (k : Bool) (a : Addr) (vs : List V) : Prop := match k with
  | true => SqT K w0.φ a vs
  | false => SqL K w0.φ a vs ∨ w0.fr a = some (.lst vs)
theorem SrcW.src {k : Bool} {a : Addr} {vs : List V} (h : SrcW K w0 k a vs) (le : w0.Lw w) (r : RelM K mg T w μ H) : Src K k H a vs := by
  cases k
  · exact scr_H r (h.elim (fun h => .inl (sqL_mono le.φ h)) fun h => .inr (by rw [le.fr]; exact h))
  · exact sqT_mono r.φ (sqT_mono le.φ h)
theorem srcW_of {x : D} {v : V} {xs : List D} (r : RelD K mg w0 x v) (e : seqV x = some xs) : ∃ k a vs, v = .ref a ∧ SrcW K w0 k a vs ∧ RelDs K mg w0 xs vs := by
  cases r with
  | @tup a vs ds h rs => cases e; exact ⟨true, a, vs, rfl, h, rs⟩
  | @lst a vs ds h rs => cases e; exact ⟨false, a, vs, rfl, .inl (.inl (.inl h)), rs⟩
  | @scr a vs ds h rs => cases e; exact ⟨false, a, vs, rfl, h, rs⟩
  | _ => cases e
theorem walks_zq {k1 k2 : Bool} {a b : Addr} {us vs : List V} {xs ys : List D} (h1 : SrcW K w0 k1 a us) (r1 : RelDs K mg w0 xs us) (h2 : SrcW K w0 k2 b vs) (r2 : RelDs K mg w0 ys vs) : Walks K mg T w0 (zipD xs ys) (Itq K k1 k2 a b) := fun w μ H i le rm => by
  have s1 := h1.src le rm
  have s2 := h2.src le rm
  have l1 := r1.length
  have l2 := r2.length
  refine ⟨fun d hd => ?_, fun hi => ?_⟩
  · obtain ⟨x, y, ex, ey, rfl⟩ := zipD_get xs ys i hd
    obtain ⟨u, hu, ru⟩ := r1.get ex
    obtain ⟨v, hv, rv⟩ := r2.get ey
    refine ⟨⟨us, vs, u, v, s1, s2, hu, hv⟩, fun z H' ⟨A, u', v', ez, hA, eH, f1, f2⟩ => ?_⟩
    have e1 := f1 us s1
    have e2 := f2 vs s2
    rw [hu] at e1; cases e1
    rw [hv] at e2; cases e2
    subst ez; subst eH
    refine ⟨w.lay A (.tup [u, v]), rm.lay_le hA _, rm.lay hA (fun ps => nofun), .tup (.inl (.inl upd_same)) ?_⟩
    exact RelDs.mono (rm.lay_le hA _) (.cons (ru.monoW le) (.cons (rv.monoW le) .nil))
  · rw [zipD_length] at hi
    exact ⟨us, vs, s1, s2, by omega, by omega, by omega⟩
theorem walks_eq {k : Bool} {a : Addr} {us : List V} {xs : List D} (h1 : SrcW K w0 k a us) (r1 : RelDs K mg w0 xs us) : Walks K mg T w0 (enumD 0 xs) (Ieq K k a) := fun w μ H i le rm => by
  have s1 := h1.src le rm
  have l1 := r1.length
  refine ⟨fun d hd => ?_, fun hi => ?_⟩
  · obtain ⟨x, ex, rfl⟩ := enumD_get 0 xs i hd
    obtain ⟨u, hu, ru⟩ := r1.get ex
    refine ⟨⟨us, u, s1, hu⟩, fun z H' ⟨A, u', ez, hA, eH, f1⟩ => ?_⟩
    have e1 := f1 us s1
    rw [hu] at e1; cases e1
    subst ez; subst eH
    refine ⟨w.lay A (.tup [.int (i : Nat), u]), rm.lay_le hA _, rm.lay hA (fun ps => nofun), .tup (.inl (.inl upd_same)) ?_⟩
    rw [Nat.zero_add]
    exact RelDs.mono (rm.lay_le hA _) (.cons (.int _) (.cons (ru.monoW le) .nil))
  · rw [enumD_length] at hi
    exact ⟨us, s1, by omega⟩
end
def iZip2 (mr : AM) : IM := fun δ μ => (mr δ μ).bind fun xs μ1 => match xs with
  | [x, y] => match seqV x, seqV y with
    | some a, some b => .ok (zipD a b) μ1
    | _, _ => .stuck
  | _ => .stuck
def iEnu (mr : AM) : IM := fun δ μ => (mr δ μ).bind fun xs μ1 => match xs with
  | [x] => match seqV x with
    | some a => .ok (enumD 0 a) μ1
    | none => .stuck
  | _ => .stuck
section
variable {X : Cx} {S : SI} {W : WX} {a b : Expr} {mr : AM} {p pos tpos : Pos} {elts : List Expr} {kk : Nat}
theorem pi_zip' (hg : Gl X "zip") (hm : X.mg "zip" = none) (ha : PA X [a, b] (TAm X S W mr)) (hs : starEach [a, b] X.env = (false, eval a X.env) :: starEach [b] X.env := by rfl) (hpl : (backTo pos (starEach [b] X.env)).any (·.1) = false := by rfl) :
    PI X (.Tuple elts kk tpos) (.Call (.Name "zip" p) [a, b] [] pos) (TIm X S W <| iZip2 mr) :=
  PIi (pi_zq hg hm ha hs hpl) fun σ H R ⟨w, δ, μ, h⟩ => ⟨w, δ, μ, (At.bind h).mono fun v H1 ⟨w1, μ1, d, le, rd, h1⟩ => by
    split at h1
    · next x y =>
      split at h1
      · next xs ys hx hy =>
        obtain ⟨u, v, rfl, ru, rv⟩ := rd.two2
        obtain ⟨k1, A, us, rfl, s1, r1⟩ := srcW_of ru hx
        obtain ⟨k2, B, vs, rfl, s2, r2⟩ := srcW_of rv hy
        exact ⟨A, B, us, vs, k1, k2, rfl, s1.src (Wd.Le.refl _).lw h1.2.1, s2.src (Wd.Le.refl _).lw h1.2.1, h1.2.2 w1 _ H1 (Wd.Le.refl _) h1.2.1 (walks_zq s1 r1 s2 r2)⟩
      · exact h1.2.2.elim
    · exact h1.2.2.elim⟩
theorem pi_enu' (hg : Gl X "enumerate") (hm : X.mg "enumerate" = none) (ha : PA X [a] (TAm X S W mr)) (hs : starEach [a] X.env = [(false, eval a X.env)] := by rfl) :
    PI X (.Tuple elts kk tpos) (.Call (.Name "enumerate" p) [a] [] pos) (TIm X S W <| iEnu mr) :=
  PIi (pi_eq' hg hm ha hs) fun σ H R ⟨w, δ, μ, h⟩ => ⟨w, δ, μ, (At.bind h).mono fun v H1 ⟨w1, μ1, d, le, rd, h1⟩ => by
    split at h1
    · next x =>
      split at h1
      · next xs hx =>
        obtain ⟨u, rfl, ru⟩ := rd.one1
        obtain ⟨k, A, us, rfl, s1, r1⟩ := srcW_of ru hx
        exact ⟨A, us, k, rfl, s1.src (Wd.Le.refl _).lw h1.2.1, h1.2.2 w1 _ H1 (Wd.Le.refl _) h1.2.1 (walks_eq s1 r1)⟩
      · exact h1.2.2.elim
    · exact h1.2.2.elim⟩
end
end Kw

set_option Elab.async false
set_option linter.all false
set_option maxRecDepth 100000
set_option maxHeartbeats 2000000
namespace Kw
open PySem PySem.Spec PyProof.Rows L2

/-! ### targets within targets -/
section
variable {K : PySem.W.Frag} {mg : Str → Option Value} {S : SI} {vs : List Nat}
theorem nmTgs_consG {gV : TG} {g : GM} {gVs : TGs} {gs : GsM} (h1 : NmTg K mg S vs gV g) (h2 : NmTgs K mg S vs gVs gs) : NmTgs K mg S vs (gCons gV gVs) (gsCons g gs) := fun w δ μ d v σ H Q δ' μ' rs rm rd e h => by
  unfold gsCons at e
  split at e
  · next d r =>
    cases rd with
    | @cons _ _ u us r1 r2 =>
      refine ⟨u, us, rfl, ?_⟩
      cases eg : g d δ μ with
      | nx δ1 μ1 =>
        rw [eg] at e
        refine h1 w δ μ d u σ H _ δ1 μ1 rs rm r1 eg fun σ1 a b c => ?_
        subst c
        exact h2 w δ1 μ1 r us σ1 H Q δ' μ' a rm r2 e fun σ' a' b' c' => h σ' a' (b'.trans b) c'
      | _ => rw [eg] at e; cases e
  · cases e
end

/-! ### chains of two comparisons -/
def eChn (g g' : D → D → Mem → Option D) (ma mb mc : EM) : EM := fun δ μ => (ma δ μ).bind fun x μ1 => (mb δ μ1).bind fun y μ2 => match g x y μ2 with
  | some (.bl k) => if k = true then (mc δ μ2).bind fun z μ3 => oOf (g' y z μ3) μ3 else .ok (.bl false) μ2
  | _ => .stuck
section
variable {X : Cx} {S : SI} {W : WX} {a b c e : Expr} {ma mb mc m : EM} {r r' : R2} {g g' : D → D → Mem → Option D} {pos : Pos}
theorem chn_of (hr : ∀ x y H Q, rD2 X.K X.mg S.T g x y H Q → r x y H Q) (hr' : ∀ x y H Q, rD2 X.K X.mg S.T g' x y H Q → r' x y H Q) (σ : L2.St) (H : Hp) (Q : VK) (h : TEm X S W (eChn g g' ma mb mc) σ H Q) : tChain r r' (TEm X S W ma) (TEm X S W mb) (TEm X S W mc) σ H Q := by
  obtain ⟨w, δ, μ, h⟩ := h
  refine ⟨w, δ, μ, (At.bind h).mono fun x H1 ⟨w1, μ1, d, le, rd, h1⟩ => ⟨w1, δ, μ1, (At.bind h1).mono fun y H2 ⟨w2, μ2, f, le2, re, h2⟩ => ?_⟩⟩
  split at h2
  · next k hk =>
    refine hr _ _ _ _ ⟨w2, μ2, d, f, .bl k, h2.2.1, rd.mono le2, re, hk, fun w3 v H3 le3 r3 rz => ?_⟩
    cases rz
    refine ⟨k, rfl, ?_⟩
    split
    · next hx =>
      rw [if_pos hx] at h2
      have h3 : At X.K X.mg S W (RelD X.K X.mg) σ Q w3 δ μ2 H3 ((mc δ μ2).bind fun z μ3 => oOf (g' f z μ3) μ3) := ⟨h2.1.mono le3, r3, by
        have := h2.2.2
        exact Out.to_mono this (fun _ _ q w' v H' a b c => q w' v H' (le3.trans a) b c) fun _ _ q w' c d H' a b e => q w' c d H' (le3.trans a) b e⟩
      refine ⟨w3, δ, μ2, (At.bind h3).mono fun z H4 ⟨w4, μ4, f', le4, rf, h4⟩ => ?_⟩
      obtain ⟨z', e, q⟩ := h4.opt
      exact hr' _ _ _ _ ⟨w4, μ4, f, f', z', h4.2.1, (re.mono le3).mono le4, rf, e, q⟩
    · next hx =>
      rw [if_neg hx] at h2
      exact h2.2.2 w3 _ H3 le3 r3 (.bl _)
  · exact (show False from h2.2.2).elim
theorem pe_chn (h : ∀ ta tb tc, PE X a ta → PE X b tb → PE X c tc → PE X e (tChain r r' ta tb tc)) (hr : ∀ x y H Q, rD2 X.K X.mg S.T g x y H Q → r x y H Q) (hr' : ∀ x y H Q, rD2 X.K X.mg S.T g' x y H Q → r' x y H Q)
    (ha : PE X a (TEm X S W ma)) (hb : PE X b (TEm X S W mb)) (hc : PE X c (TEm X S W mc)) : PE X e (TEm X S W <| eChn g g' ma mb mc) := PEi (h _ _ _ ha hb hc) (chn_of hr hr')
theorem pt_chn (h : ∀ ta tb tc, PE X a ta → PE X b tb → PE X c tc → PT X e (tTest (tChain r r' ta tb tc))) (hr : ∀ x y H Q, rD2 X.K X.mg S.T g x y H Q → r x y H Q) (hr' : ∀ x y H Q, rD2 X.K X.mg S.T g' x y H Q → r' x y H Q)
    (ha : PE X a (TEm X S W ma)) (hb : PE X b (TEm X S W mb)) (hc : PE X c (TEm X S W mc)) : PT X e (TTm X S W <| tBl (eChn g g' ma mb mc)) := PTi (h _ _ _ ha hb hc) fun σ H Q ⟨w, δ, μ, q⟩ => by
  refine chn_of hr hr' σ H _ ⟨w, δ, μ, q.1, q.2.1, ?_⟩
  have q3 := q.2.2
  unfold tBl at q3
  cases eo : eChn g g' ma mb mc δ μ with
  | stuck => rw [eo] at q3; exact q3.elim
  | exc x μ' => rw [eo] at q3; exact q3
  | ok d μ' =>
    rw [eo] at q3
    intro w' v H' le rm rd
    cases d with
    | bl k =>
      cases rd
      exact ⟨k, rfl, q3 w' k H' le rm rfl⟩
    | _ => exact q3.elim
end

/-! ### times a number -/
section
variable {X : Cx}
theorem tuple_mul1 (l : Addr) (items : Array Value) (n : Nat) (dd : Option Addr) (sl : Array (Option Value)) (u : Tok) :
    Meets (Builtin.«tuple.__mul__» ⟨[.ref l, .int 1 u], []⟩) (fun _ R s => s.heap.get? l = some { cls := .type "tuple", dict := dd, data := .seq items n, slots := sl } ∧ R (.ok (.ret (Value.ref l))) s) :=
  .of_wp fun prog w A R s h => by
    obtain ⟨hp, g, d, tk, os⟩ := s
    obtain ⟨hl, h⟩ := h
    have f1 := AutoSeq1.idx_int
    wp_walk using wpAny_loadPart' hl
    repeat (first
      | (refine wpAny_ite_false (decide_eq_false (by decide)) ?_; wp_walk using wpAny_loadPart' hl)
      | (refine wpAny_ite_true (decide_eq_true (by rw [show ((1 : Int) == 1) = true from rfl, Bool.or_true])) ?_; wp_walk using wpAny_loadPart' hl))
    exact ⟨_, rfl, h⟩
def rRep1 (K : PySem.W.Frag) : R2 := fun x y H Q => ∃ l xs, x = .ref l ∧ y = .int 1 ∧ SqT K H l xs ∧ Q (.ref l) H
theorem op_rep1 : OpR X (binaryOp .Mult) (rRep1 X.K) := by
  intro pins s σ H x y v u Q I rx ry h
  obtain ⟨l, xs, rfl, rfl, hT, q⟩ := h
  cases rx
  obtain ⟨t, rfl⟩ := ry
  obtain ⟨its, r, ⟨⟨cls, dd, data, sl⟩, ho, hc, n, hd⟩, hs⟩ := I.tuple hT
  simp only at hc hd
  subst hc hd
  refine wpAny_binaryOp_repeat_ref (T := "tuple") (U := "int") (by decide) ⟨_, ho, rfl⟩ (fun s' => typeIs_int s' 1 t) noFill_tuple_mul F.fills_int_mul F.slot_int_rmul repeat_tuple F.slot_int_index.lookup
    (call_meets F.slot_int_rmul (typeIs_int s 1 t) F.entry_int_rmul (F.args_int_rmul_2 _ _) (int_rmul_tuple 1 t l its.toArray n dd sl)
      ⟨ho, rfl, ⟨_, ho, rfl⟩, call_meets F.slot_tuple_mul ⟨_, ho, rfl⟩ F.entry_tuple_mul (F.args_tuple_mul_2 _ _) (tuple_mul1 l its.toArray n dd sl t) ⟨ho, ?_⟩⟩)
  exact ⟨.ref l, H, I, rfl, q⟩
def rRepS : R2 := fun x y H Q => ∃ (z : Str) (k : Int), x = .str z ∧ y = .int k ∧ 0 ≤ k ∧ k ≤ 1000 ∧ z.length ≤ 1000 ∧ Q (.str (Txt.mul z k)) H
theorem op_repS : OpR X (binaryOp .Mult) rRepS := by
  intro pins s σ H x y v u Q I rx ry h
  obtain ⟨z, k, rfl, rfl, h0, h1, hz, q⟩ := h
  obtain ⟨t, rfl⟩ := rx
  obtain ⟨t2, rfl⟩ := ry
  refine SB.mul (x := z) (n := k) ⟨?_, fun hk _ => ?_, fun hk _ => ?_⟩ fun t' k' => ⟨.str _, H, I.tok _, ⟨t', rfl⟩, q⟩
  · rw [decide_eq_false (by omega), decide_eq_false (by omega)] <;> rfl
  · have hk' : 0 < k := by omega
    have : (1000 : Int) ≤ (2 ^ 63 - 1) / k := by
      rw [Int.le_ediv_iff_mul_le hk']
      omega
    omega
  · unfold Builtin.Str.tooLong
    rw [sizeLine_eq]
    refine decide_eq_false ?_
    have : z.length * k.toNat ≤ 1000 * 1000 := Nat.mul_le_mul hz (by omega)
    omega
end
def repD (k : Int) (xs : List D) : List D := (List.replicate k.toNat xs).flatten
def gRep : D → D → Mem → Option D
  | .tup xs, .int k, _ => if 0 < xs.length ∧ 1 ≤ k ∧ k ≤ 1000 ∧ xs.length ≤ 1000 then some (.tup (repD k xs)) else none
  | .lst xs, .int k, _ => if -9223372036854775808 ≤ k ∧ k < 9223372036854775808 ∧ xs.length * k.toNat ≤ sizeLine then some (.lst (repD k xs)) else none
  | .str x, .int k, _ => if 0 ≤ k ∧ k ≤ 1000 ∧ x.length ≤ 1000 then some (.str (Txt.mul x k)) else none
  | _, _, _ => none
section
variable {K : PySem.W.Frag} {mg : Str → Option Value} {T : List (Addr × Str)} {x y : V} {H : Hp} {Q : VK} {w : Wd}
theorem RelDs.rep {xs : List D} {vs : List V} (h : RelDs K mg w xs vs) : ∀ k : Nat, RelDs K mg w (List.replicate k xs).flatten (List.replicate k vs).flatten
  | 0 => .nil
  | k + 1 => by
    rw [List.replicate_succ, List.replicate_succ, List.flatten_cons, List.flatten_cons]
    exact h.append (RelDs.rep h k)
theorem rep_r (h : rD2 K mg T gRep x y H Q) : rRep1 K x y H Q ∨ rRepT K x y H Q ∨ rRep x y H Q ∨ rRepS x y H Q := by
  obtain ⟨w, μ, dx, dy, d, r, rx, ry, e, q⟩ := h
  unfold gRep at e
  split at e
  · next xs k =>
    split at e
    · next hc =>
      cases e
      cases ry
      obtain ⟨a, vs, rfl, h1, h2⟩ := tupOf_rel r rx rfl
      by_cases hk : k = 1
      · subst hk
        left
        refine ⟨a, vs, rfl, rfl, h1, ?_⟩
        have : repD 1 xs = xs := by simp [repD]
        rw [this] at q
        exact q.same r rx
      · right; left
        refine ⟨a, k, vs, rfl, rfl, h1, fun z => ?_, by omega, by omega, by rw [← h2.length]; exact hc.2.2.2, q.tup r (h2.rep _)⟩
        have l := h2.length
        rw [z] at l
        have l2 : xs.length = 0 := l
        omega
    · cases e
  · next xs k =>
    split at e
    · next hc =>
      cases e
      cases ry
      cases rx with
      | @lst a vs ds e rs =>
        refine .inr (.inr (.inl ⟨a, k, vs, rfl, rfl, r.φ _ _ e, by omega, by omega, by rw [← rs.length]; exact hc.2.2, q.lst r (rs.rep _)⟩))
    · cases e
  · next z k =>
    split at e
    · next hc =>
      cases e
      cases rx; cases ry
      exact .inr (.inr (.inr ⟨_, _, rfl, rfl, hc.1, hc.2.1, hc.2.2, q.same r (.str _)⟩))
    · cases e
  · cases e
end
/-- a list times a number, as a place -/
def repL : D → D → Option (List D)
  | .lst xs, .int k => if -9223372036854775808 ≤ k ∧ k < 9223372036854775808 ∧ xs.length * k.toNat ≤ sizeLine then some (repD k xs) else none
  | _, _ => none
theorem repL_r {K : PySem.W.Frag} {mg : Str → Option Value} {w : Wd} {d f : D} {x y : V} {ys : List D} (rd : RelD K mg w d x) (re : RelD K mg w f y) (e : repL d f = some ys) :
    ∃ l k vs, x = .ref l ∧ y = .int k ∧ w.φ l = some (.lst vs) ∧ -(2 ^ 63) ≤ k ∧ k < 2 ^ 63 ∧ vs.length * k.toNat ≤ sizeLine ∧ RelDs K mg w ys (List.replicate k.toNat vs).flatten := by
  unfold repL at e
  split at e
  · next xs k =>
    split at e
    · next hc =>
      cases e
      cases re
      cases rd with
      | @lst a vs ds e rs => exact ⟨a, k, vs, rfl, rfl, e, by omega, by omega, by rw [← rs.length]; exact hc.2.2, rs.rep _⟩
    · cases e
  · cases e
def eNewRep (ma mb : EM) : EM := fun δ μ => (ma δ μ).bind fun x μ1 => (mb δ μ1).bind fun y μ2 => match repL x y with
  | some ys => .ok (.loc μ2.length) (μ2 ++ [.lst ys])
  | none => .stuck
section
variable {X : Cx} {S : SI} {W : WX} {a b e : Expr} {es : List Expr} {ma mb : EM} {mr : AM} {pos p : Pos}
theorem pe_rep' (ha : PE X a (TEm X S W ma)) (hb : PE X b (TEm X S W mb)) : PE X (.BinOp a .Mult b pos) (TEm X S W <| e2 gRep ma mb) := pe_2 (fun t u => pe_op (op_rep1.or (op_repT.or (op_rep.or op_repS)))) (fun _ _ _ _ => rep_r) ha hb
theorem pe_newRep (ha : PE X a (TEm X S W ma)) (hb : PE X b (TEm X S W mb)) : PE X (.BinOp a .Mult b pos) (TEm X S W <| eNewRep ma mb) :=
  PEi (pe_op op_rep ha hb) fun σ H Q ⟨w, δ, μ, h⟩ => ⟨w, δ, μ, (At.bind h).mono fun x H1 ⟨w1, μ1, d, le, rd, h1⟩ => ⟨w1, δ, μ1, (At.bind h1).mono fun y H2 ⟨w2, μ2, f, le2, re, h2⟩ => by
    split at h2
    · next ys hy =>
      obtain ⟨l, k, vs, rfl, rfl, h5, h6, h7, h8, h9⟩ := repL_r (rd.mono le2) re hy
      exact ⟨l, k, vs, rfl, rfl, h2.2.1.φ _ _ h5, h6, h7, h8, put_new h2.2.1 (.lst h9) h2.2.2⟩
    · exact h2.2.2.elim⟩⟩

/-! ### any, all: of ints and bools, in a list or a tuple -/
def flatT : D → Option Bool
  | .bl b => some b
  | .int i => some (i != 0)
  | _ => none
def flatTs : List D → Option (List Bool)
  | [] => some []
  | d :: ds => match flatT d, flatTs ds with
    | some b, some bs => some (b :: bs)
    | _, _ => none
def gAnyF : List D → Mem → Option D
  | [x], μ => match seqOf μ x with
    | some xs => match flatTs xs with
      | some bs => some (.bl (bs.any id))
      | none => none
    | none => none
  | _, _ => none
def rAnyF (K : PySem.W.Frag) : List V → Hp → VK → Prop := fun vs H Q => ∃ a k xs ds, vs = [V.ref a] ∧ Src K k H a xs ∧ DpAll K H xs ds ∧ PyData.plainAll ds = true ∧ (∀ x ∈ ds, x.fits63) ∧ Q (.bl (ds.any PyData.truthy)) H
theorem cr_anyF (hc : X.calm = true) : CallR X (.builtin "any") (rAnyF X.K) := by
  intro pins s σ H vs us Q I r h
  obtain ⟨a, k, xs, ds, rfl, hs, dp, hp, hf, q⟩ := h
  obtain ⟨its, rv, hl⟩ := src_has I hs
  rw [Vals.ref1 r]
  obtain ⟨as, hr⟩ := Dp.readsAll I ds xs its dp rv
  have fin : ∀ h' tk, (∀ b o, s.heap.get? b = some o → h'.get? b = some o) → EP X pins σ Q (.bool (ds.any PyData.truthy)) { s with heap := h', toks := tk } := fun h' tk hk => ⟨.bl _, H, I.kept hk, rfl, q⟩
  cases k
  · exact PySem.W.any_list_data (I.ok.hd hc) hl (by simpa using hr) hp hf fin
  · exact PySem.W.any_tuple_data (I.ok.hd hc) hl (by simpa using hr) hp hf fin
theorem flatTs_dp {K : PySem.W.Frag} {mg : Str → Option Value} {w : Wd} {H : Hp} : ∀ {ds : List D} {vs : List V} {bs : List Bool}, RelDs K mg w ds vs → flatTs ds = some bs → ∃ ps, DpAll K H vs ps ∧ PyData.plainAll ps = true ∧ (∀ x ∈ ps, x.fits63) ∧ ps.map PyData.truthy = bs
  | [], _, _, .nil, h => by cases h; exact ⟨[], .nil, rfl, by simp, rfl⟩
  | d :: ds, _, bs, .cons r t, h => by
    unfold flatTs at h
    split at h
    · next b bs' hb hbs =>
      cases h
      obtain ⟨ps, h1, h2, h3, h4⟩ := flatTs_dp t hbs
      unfold flatT at hb
      split at hb
      · cases hb; cases r
        exact ⟨.bool _ :: ps, .cons (.bl _) h1, by simp [PyData.plainAll, PyData.plain, h2], fun x hx => (List.mem_cons.mp hx).elim (fun e => by subst e; trivial) (h3 x), by simp [PyData.truthy, h4]⟩
      · cases hb; cases r
        exact ⟨.int _ :: ps, .cons (.int _) h1, by simp [PyData.plainAll, PyData.plain, h2], fun x hx => (List.mem_cons.mp hx).elim (fun e => by subst e; trivial) (h3 x), by simp [PyData.truthy, h4]⟩
      · cases hb
    · cases h
theorem anyF_r {K : PySem.W.Frag} {mg : Str → Option Value} {T : List (Addr × Str)} {xs : List V} {H : Hp} {Q : VK} (h : rDs K mg T gAnyF xs H Q) : rAnyF K xs H Q := by
  obtain ⟨w, μ, ds, d, r, rs, e, q⟩ := h
  unfold gAnyF at e
  split at e
  · obtain ⟨x, rfl, rx⟩ := rs.one1
    split at e
    · next ys hy =>
      obtain ⟨a, vs, rfl, h2, h3⟩ := seqOf_rel r rx hy
      split at e
      · next bs hb =>
        cases e
        obtain ⟨ps, p1, p2, p3, p4⟩ := flatTs_dp (H := H) h3 hb
        refine h2.elim (fun h2 => ⟨a, false, vs, ps, rfl, h2, p1, p2, p3, ?_⟩) fun h2 => ⟨a, true, vs, ps, rfl, h2, p1, p2, p3, ?_⟩ <;>
        · rw [show ps.any PyData.truthy = bs.any id by rw [← p4, List.any_map]; rfl]
          exact q.same r (.bl _)
      · cases e
    · cases e
  · cases e
theorem pe_anyF' (hc : X.calm = true) (hg : Gl X "any") (hm : X.mg "any" = none) (ha : PA X (e :: es) (TAm X S W mr)) (he : starEach (e :: es) X.env = (false, eval e X.env) :: starEach es X.env := by rfl) (hpl : (backTo pos (starEach es X.env)).any (·.1) = false := by rfl) :
    PE X (.Call (.Name "any" p) (e :: es) [] pos) (TEm X S W <| eAs gAnyF mr) := pe_As (fun t h => pe_callB (cr_anyF hc) hg hm (by decide +kernel) h (by decide) (by decide) he hpl) (fun _ _ _ => anyF_r) ha
end
end Kw

set_option Elab.async false
set_option linter.all false
set_option maxRecDepth 100000
namespace Kw
open PySem PySem.Spec PyProof.Rows L2

/-! ### comprehensions over lists that may change, and comprehensions whose list is a place -/
/-- what comes next: none: nothing is known; some none: the end -/
abbrev Nx := Nat → Mem → Option (Option D)
def WalksN (K : PySem.W.Frag) (mg : Str → Option Value) (T : List (Addr × Str)) (w0 : Wd) (nx : Nx) (J : It) : Prop := ∀ w μ H i, w0.Lw w → RelM K mg T w μ H →
  (nx i μ = some none → J.stop i H) ∧ ∀ d, nx i μ = some (some d) → J.go i H ∧ ∀ x H', J.yld i H x H' → ∃ w1, w.Le w1 ∧ RelM K mg T w1 μ H' ∧ RelD K mg w1 d x
abbrev NM := Sv → Mem → Out (Nx × Nat)
abbrev TNm (X : Cx) (S : SI) (W : WX) (m : NM) : TI := tM X.K X.mg S W (fun w (p : Nx × Nat) J => WalksN X.K X.mg S.T w p.1 J) m
/-- items that stand -/
def nxL (items : List D) : Nx := fun i _ => if i ≤ items.length then some items[i]? else none
def nOf (mi : IM) : NM := fun δ μ => (mi δ μ).bind fun items μ1 => .ok (nxL items, items.length + 1) μ1
def nxLoc (l : Nat) : Nx := fun i μ => match μ[l]? with
  | some (.lst xs) => if i ≤ xs.length then some xs[i]? else none
  | _ => none
def nxEnu (l : Nat) : Nx := fun i μ => match μ[l]? with
  | some (.lst xs) => if i ≤ xs.length then some (xs[i]?.map fun x => .tup [.int (i : Nat), x]) else none
  | _ => none
def nLoc (ma : EM) : NM := fun δ μ => (ma δ μ).bind fun x μ1 => match x with
  | .loc l => match μ1[l]? with
    | some (.lst xs) => .ok (nxLoc l, xs.length + 1) μ1
    | _ => .stuck
  | _ => .stuck
def nEnu (mr : AM) : NM := fun δ μ => (mr δ μ).bind fun xs μ1 => match xs with
  | [.loc l] => match μ1[l]? with
    | some (.lst xs) => .ok (nxEnu l, xs.length + 1) μ1
    | _ => .stuck
  | _ => .stuck
def lcN (nx : Nx) (g : GM) (mt : TM) (me : EM) (δ : Sv) : Nat → Nat → Mem → Out (List D)
  | 0, _, _ => .stuck
  | n + 1, i, μ => match nx i μ with
    | none => .stuck
    | some none => .ok [] μ
    | some (some d) => match g d δ μ with
      | .nx δ1 μ1 => match mt δ1 μ1 with
        | .ok true μ2 => match me δ1 μ2 with
          | .ok y μ3 => match lcN nx g mt me δ n (i + 1) μ3 with
            | .ok ys μ4 => .ok (y :: ys) μ4
            | _ => .stuck
          | _ => .stuck
        | .ok false μ2 => lcN nx g mt me δ n (i + 1) μ2
        | _ => .stuck
      | _ => .stuck
def eLcN (pl : Bool) (mi : NM) (g : GM) (mt : TM) (me : EM) (vs : List Nat) : EM := fun δ μ => (mi δ μ).bind fun p μ1 => match lcN p.1 g mt me (wipeD δ vs) p.2 0 μ1 with
  | .ok ys μ2 => if ys.length ≤ sizeLine then (if pl = true then .ok (.loc μ2.length) (μ2 ++ [.lst ys]) else .ok (.lst ys) μ2) else .stuck
  | _ => .stuck
theorem lcN_fix {items : List D} {g : GM} {mt : TM} {me : EM} {δ : Sv} : ∀ (n i : Nat) (μ : Mem), i + n = items.length + 1 → lcN (nxL items) g mt me δ n i μ = if i ≤ items.length then lcL g mt me δ (items.drop i) μ else .stuck
  | 0, i, μ, h => by
    rw [if_neg (by omega)]
    rfl
  | n + 1, i, μ, h => by
    rw [if_pos (by omega)]
    unfold lcN
    by_cases hi : i < items.length
    · have e1 : nxL items i μ = some (some items[i]) := by
        unfold nxL
        rw [if_pos (by omega), List.getElem?_eq_getElem hi]
      rw [e1, List.drop_eq_getElem_cons hi]
      have ih := fun μ' => lcN_fix (items := items) (g := g) (mt := mt) (me := me) (δ := δ) n (i + 1) μ' (by omega)
      have ih' : ∀ μ', lcN (nxL items) g mt me δ n (i + 1) μ' = lcL g mt me δ (items.drop (i + 1)) μ' := fun μ' => by rw [ih μ', if_pos (by omega)]
      simp only [lcL, ih'] <;> rfl
    · have e2 : i = items.length := by omega
      subst e2
      have e1 : nxL items items.length μ = some none := by
        unfold nxL
        rw [if_pos (Nat.le_refl _), List.getElem?_eq_none (Nat.le_refl _)]
      rw [e1, List.drop_length]
      rfl
/-- over what stands it is lcL -/
theorem eLcN_fix {pl : Bool} {mi : IM} {g : GM} {mt : TM} {me : EM} {vs : List Nat} {δ : Sv} {μ : Mem} : eLcN pl (nOf mi) g mt me vs δ μ = ((mi δ μ).bind fun items μ1 => (match lcL g mt me (wipeD δ vs) items μ1 with
  | .ok ys μ2 => if ys.length ≤ sizeLine then (if pl = true then .ok (.loc μ2.length) (μ2 ++ [.lst ys]) else .ok (.lst ys) μ2) else .stuck
  | _ => .stuck : Out D)) := by
  unfold eLcN nOf
  cases mi δ μ with
  | stuck => rfl
  | exc x μ' => rfl
  | ok items μ1 =>
    show ((match lcN (nxL items) g mt me (wipeD δ vs) (items.length + 1) 0 μ1 with
      | .ok ys μ2 => if ys.length ≤ sizeLine then (if pl = true then .ok (.loc μ2.length) (μ2 ++ [.lst ys]) else .ok (.lst ys) μ2) else .stuck
      | _ => .stuck : Out D)) = _
    rw [lcN_fix (items.length + 1) 0 μ1 (by omega), if_pos (Nat.zero_le _), List.drop_zero]
    rfl
section
variable {K : PySem.W.Frag} {mg : Str → Option Value} {T : List (Addr × Str)} {w w0 : Wd} {μ : Mem} {H : Hp}
theorem WalksN.of {items : List D} {J : It} (h : Walks K mg T w0 items J) : WalksN K mg T w0 (nxL items) J := fun w μ H i le rm => by
  obtain ⟨k1, k2⟩ := h w μ H i le rm
  refine ⟨fun e => k2 ?_, fun d e => k1 d ?_⟩
  · unfold nxL at e
    split at e
    · next hi =>
      have := List.getElem?_eq_none_iff.mp (Option.some.inj e)
      omega
    · cases e
  · unfold nxL at e
    split at e
    · exact Option.some.inj e
    · cases e
theorem walksN_loc {l : Nat} (hl : l < w0.n) : WalksN K mg T w0 (nxLoc l) (Itl K (w0.ρ l)) := fun w μ H i le rm => by
  have hρ := le.ρ l hl
  unfold nxLoc
  split
  · next xs hx =>
    obtain ⟨vs, h1, h2⟩ := rm.lst hx
    rw [hρ] at h1
    have len := h2.length
    refine ⟨fun e => ?_, fun d e => ?_⟩
    · split at e
      · have := List.getElem?_eq_none_iff.mp (Option.some.inj e)
        exact ⟨vs, .inl (.inl h1), by omega⟩
      · cases e
    · split at e
      · have hd := Option.some.inj e
        obtain ⟨v, hv, rv⟩ := h2.get hd
        refine ⟨⟨vs, v, .inl (.inl h1), hv⟩, fun x H' ⟨e, ex⟩ => ⟨w, Wd.Le.refl _, e ▸ rm, ?_⟩⟩
        have := ex vs (.inl (.inl h1))
        rw [hv] at this
        cases this
        exact rv
      · cases e
  · exact ⟨(fun e => nomatch e), (fun d e => nomatch e)⟩
theorem walksN_enu {l : Nat} (hl : l < w0.n) : WalksN K mg T w0 (nxEnu l) (Ieq K false (w0.ρ l)) := fun w μ H i le rm => by
  have hρ := le.ρ l hl
  unfold nxEnu
  split
  · next xs hx =>
    obtain ⟨vs, h1, h2⟩ := rm.lst hx
    rw [hρ] at h1
    have len := h2.length
    refine ⟨fun e => ?_, fun d e => ?_⟩
    · split at e
      · next hi =>
        have := List.getElem?_eq_none_iff.mp (Option.map_eq_none_iff.mp (Option.some.inj e))
        exact ⟨vs, .inl (.inl h1), by omega⟩
      · cases e
    · split at e
      · obtain ⟨y, hy, ey⟩ := Option.map_eq_some_iff.mp (Option.some.inj e)
        subst ey
        obtain ⟨v, hv, rv⟩ := h2.get hy
        refine ⟨⟨vs, v, .inl (.inl h1), hv⟩, fun z H' ⟨A, u', ez, hA, eH, f1⟩ => ?_⟩
        have e1 := f1 vs (.inl (.inl h1))
        rw [hv] at e1; cases e1
        subst ez; subst eH
        exact ⟨w.lay A (.tup [.int (i : Nat), v]), rm.lay_le hA _, rm.lay hA (fun ps => nofun), .tup (.inl (.inl upd_same)) (RelDs.mono (rm.lay_le hA _) (.cons (.int _) (.cons rv .nil)))⟩
      · cases e
  · exact ⟨(fun e => nomatch e), (fun d e => nomatch e)⟩
/-- what was being made becomes a place -/
def Wd.born (w : Wd) (p : Addr) (g : Hp) : Wd := { w with n := w.n + 1, ρ := fun l => if l = w.n then p else w.ρ l, gr := g }
theorem RelM.born (r : RelM K mg T w μ H) {p : Addr} {us : List V} {ds : List D} {g : Hp} (hp : w.gr p = some (.lst us)) (rd : RelDs K mg w ds us) (hg : ∀ a, a ≠ p → g a = w.gr a) (gp : g p = none) : w.Lw (w.born p g) ∧ RelM K mg T (w.born p g) (μ ++ [.lst ds]) H := by
  have hH := r.gr p _ hp
  obtain ⟨f1, f2⟩ := r.dg p _ hp
  have lw : w.Lw (w.born p g) := ⟨Nat.le_succ _, fun l h => if_neg (Nat.ne_of_lt h), fun _ _ h => h, rfl⟩
  have gg : ∀ {a u}, g a = some u → a ≠ p ∧ w.gr a = some u := fun {a u} h => by
    have : a ≠ p := fun e => by rw [e, gp] at h; cases h
    exact ⟨this, by rw [← hg a this]; exact h⟩
  have old : ∀ l, l < w.n → (w.born p g).ρ l = w.ρ l := fun l h => if_neg (Nat.ne_of_lt h)
  have apart : ∀ l, l < w.n → w.ρ l ≠ p := fun l hl z => by
    have hl' : l < μ.length := r.n ▸ hl
    have q := r.ob l μ[l] (List.getElem?_eq_getElem hl')
    by_cases ng : μ[l] = .gone
    · obtain ⟨u, hu⟩ := r.gn l (by rw [List.getElem?_eq_getElem hl', ng])
      rw [z, f1] at hu; cases hu
    · have := (q.2 ng).2.2
      rw [z, hp] at this; cases this
  refine ⟨lw, ?_, r.φ, r.fr, fun a u h => r.gr a u (gg h).2, r.dj, fun a u h => r.dg a u (gg h).2, fun l c hc => ?_, fun l hl => ?_, fun l l' h h' e => ?_, r.tabs, fun a ps => ⟨(r.nt a ps).1, (r.nt a ps).2.1, fun z => (r.nt a ps).2.2.1 (gg z).2, fun f z => (r.nt a ps).2.2.2 f (gg z).2⟩⟩
  · show w.n + 1 = _
    simp [r.n]
  · by_cases e : l = w.n
    · subst e
      rw [r.n, List.getElem?_append_right (Nat.le_refl _)] at hc
      simp at hc
      subst hc
      rw [show (w.born p g).ρ w.n = p from if_pos rfl, hH]
      exact ⟨.lst (RelDs.monoW lw rd), fun _ => ⟨f1, f2, gp⟩⟩
    · have hl : l < μ.length := by
        have := (List.getElem?_eq_some_iff.mp hc).1
        simp at this
        have := r.n
        omega
      rw [List.getElem?_append_left hl] at hc
      obtain ⟨h1, h2⟩ := r.ob l c hc
      have hn : l < w.n := by rw [r.n]; exact hl
      rw [old l hn]
      refine ⟨h1.monoW lw, fun ng => ⟨(h2 ng).1, (h2 ng).2.1, ?_⟩⟩
      show g (w.ρ l) = none
      rw [hg _ (apart l hn)]
      exact (h2 ng).2.2
  · by_cases e : l < μ.length
    · rw [List.getElem?_append_left e] at hl
      obtain ⟨u, hu⟩ := r.gn l hl
      refine ⟨u, ?_⟩
      show w.φ ((w.born p g).ρ l) = some u
      rw [old l (by have := r.n; omega)]
      exact hu
    · rw [List.getElem?_append_right (by omega)] at hl
      cases k : l - μ.length with
      | zero => rw [k] at hl; cases hl
      | succ n => rw [k] at hl; cases hl
  · have h1 : l < w.n + 1 := h
    have h2 : l' < w.n + 1 := h'
    by_cases e1 : l = w.n
    · by_cases e2 : l' = w.n
      · rw [e1, e2]
      · rw [show (w.born p g).ρ l = p from if_pos e1, old l' (by omega)] at e
        exact absurd e.symm (apart l' (by omega))
    · by_cases e2 : l' = w.n
      · rw [old l (by omega), show (w.born p g).ρ l' = p from if_pos e2] at e
        exact absurd e (apart l (by omega))
      · rw [old l (by omega), old l' (by omega)] at e
        exact r.inj l l' (by omega) (by omega) e
end
section
variable {X : Cx} {S : SI} {W : WX} {elt tg iter a : Expr} {ifs : List Expr} {scope : Scope} {own : List (Str × Nat)} {pos p : Pos} {mi : NM} {mf : IM} {g : GM} {gV : TG} {mt : TM} {me ma : EM} {mr : AM} {pl : Bool} {elts : List Expr} {kk : Nat} {tpos : Pos}
theorem tLcN_of {σ : L2.St} {H : Hp} {Q : VK} {vs : List Nat} (hn : NmTg X.K X.mg S vs gV g) (h : tM X.K X.mg S W (RelD X.K X.mg) (eLcN pl mi g mt me vs) σ H Q) : tLc (TNm X S W mi) gV (TTm X S W0 mt) (TEm X S W0 me) vs σ H Q := by
  obtain ⟨w, δ, μ, h⟩ := h
  refine ⟨w, δ, μ, (At.bind h).mono fun J H1 ⟨w1, μ1, ⟨nx, fuel⟩, le1, wk, h1⟩ => ?_⟩
  have rs1 := h1.1
  have rm1 := h1.2.1
  have h3 := h1.2.2
  simp only at wk h3
  cases e : lcN nx g mt me (wipeD δ vs) fuel 0 μ1 with
  | stuck => rw [e] at h3; exact h3.elim
  | exc x μ' => rw [e] at h3; exact h3.elim
  | ok ys μ2 =>
    rw [e] at h3
    simp only at h3
    split at h3
    case isFalse => exact h3.elim
    case isTrue hsz =>
    intro D hD
    obtain ⟨f1, f2, fg, f3⟩ := rm1.free hD
    refine ⟨fun i m H => ∃ (w : Wd) (μ : Mem) (acc : List Kw.D × List V) (zs : List Kw.D), w1.Lw w ∧ w.gr = upd w1.gr D (.lst acc.2) ∧ RelDs X.K X.mg w acc.1 acc.2 ∧ RelM X.K X.mg S.T w μ H ∧ lcN nx g mt me (wipeD δ vs) m i μ = .ok zs μ2 ∧ ys = acc.1 ++ zs, ⟨fuel, w1.grow D (.lst []), μ1, ([], []), ys, w1.grow_lw D _, rfl, .nil, rm1.grow hD _, e, rfl⟩, ?_⟩
    rintro i m H ⟨w2, μ3, ⟨ds, us⟩, zs, lw, hgr, racc, rm, hz, rfl⟩
    simp only at hgr racc hz
    obtain ⟨k2, k1⟩ := wk w2 μ3 H i lw rm
    have hgD : w2.gr D = some (.lst us) := by rw [hgr, upd_same]
    cases m with
    | zero => cases hz
    | succ m =>
    unfold lcN at hz
    cases en : nx i μ3 with
    | none => rw [en] at hz; cases hz
    | some o =>
    rw [en] at hz
    cases o with
    | some d =>
      right
      simp only at hz
      obtain ⟨go, yl⟩ := k1 _ en
      refine ⟨go, fun H' => ∃ (w : Wd) (μ : Mem) (acc : List Kw.D × List V) (zs' : List Kw.D), w1.Lw w ∧ w.gr = upd w1.gr D (.lst acc.2) ∧ RelDs X.K X.mg w acc.1 acc.2 ∧ RelM X.K X.mg S.T w μ H' ∧ lcN nx g mt me (wipeD δ vs) m (i + 1) μ = .ok zs' μ2 ∧ ds ++ zs = acc.1 ++ zs', fun H' hN => ⟨m, Nat.lt_succ_self m, hN⟩, fun x H' hy => ?_⟩
      obtain ⟨w3, le3, rm3, rd⟩ := yl x H' hy
      have lw3 := lw.trans le3.lw
      have rs3 : RelSv X.K X.mg S w3 (wipeD δ vs) (L2.wipe σ vs) := (rs1.wipe vs).monoW lw3
      cases eg : g d (wipeD δ vs) μ3 with
      | nx δ4 μ4 =>
        rw [eg] at hz
        simp only at hz
        refine hn w3 _ μ3 d x _ H' _ δ4 μ4 rs3 rm3 rd eg fun σ' rs4 hw hμ => ?_
        subst hμ
        refine ⟨hw.trans (wipe_wipe σ vs), w3, δ4, μ4, rs4, rm3, ?_⟩
        cases et : mt δ4 μ4 with
        | ok b μ5 =>
          rw [et] at hz
          intro w5 b' H5 le5 rm5 hb
          cases hb
          have hgr5 : w5.gr = upd w1.gr D (.lst us) := by rw [le5.gr, le3.gr]; exact hgr
          cases b with
          | true =>
            simp only at hz
            rw [if_pos rfl]
            refine ⟨w5, δ4, μ5, rs4.mono le5, rm5, ?_⟩
            cases ee : me δ4 μ5 with
            | ok y μ6 =>
              rw [ee] at hz
              simp only at hz
              intro w6 v H6 le6 rm6 ry
              cases el : lcN nx g mt me (wipeD δ vs) m (i + 1) μ6 with
              | ok zs' μ7 =>
                rw [el] at hz
                cases hz
                have hgr6 : w6.gr = upd w1.gr D (.lst us) := by rw [le6.gr]; exact hgr5
                have hg6 : w6.gr D = some (.lst us) := by rw [hgr6, upd_same]
                have racc6 : RelDs X.K X.mg w6 ds us := ((racc.mono le3).mono le5).mono le6
                refine ⟨us, rm6.gr D _ hg6, ?_, w6.grow D (.lst (us ++ [v])), μ6, (ds ++ [y], us ++ [v]), zs', ?_, ?_, ?_, rm6.regrow hg6 rfl _, el, by simp⟩
                · have l1 := racc.length
                  have l2 := hsz
                  simp only [List.length_append, List.length_cons] at l2
                  omega
                · exact ((lw3.trans le5.lw).trans le6.lw).trans (w6.grow_lw D _)
                · show upd w6.gr D _ = _
                  rw [hgr6]
                  funext a
                  by_cases ha : a = D
                  · subst ha; rw [upd_same, upd_same]
                  · rw [upd_ne ha, upd_ne ha, upd_ne ha]
                · exact RelDs.monoW (w6.grow_lw D _) (racc6.append (.one ry))
              | exc x μ' => rw [el] at hz; cases hz
              | stuck => rw [el] at hz; cases hz
            | exc x μ' => rw [ee] at hz; cases hz
            | stuck => rw [ee] at hz; cases hz
          | false =>
            simp only at hz
            rw [if_neg (by decide)]
            exact ⟨w5, μ5, (ds, us), zs, lw3.trans le5.lw, hgr5, (racc.mono le3).mono le5, rm5, hz, rfl⟩
        | exc x μ' => rw [et] at hz; cases hz
        | stuck => rw [et] at hz; cases hz
      | _ => rw [eg] at hz; cases hz
    | none =>
      left
      refine ⟨k2 en, ?_⟩
      cases hz
      rw [List.append_nil] at h3
      have hg' : ∀ a, a ≠ D → w1.gr a = w2.gr a := fun a ha => by rw [hgr, upd_ne ha]
      cases pl with
      | false =>
        rw [if_neg (by decide)] at h3
        have rdone := rm.done (g := w1.gr) hgD hg' fg (fun _ => nofun)
        refine h3 (w2.done D (.lst us) w1.gr) _ H ⟨lw.n, lw.ρ, fun a o ha => ?_, lw.fr, rfl⟩ rdone (.lst upd_same (RelDs.monoW ?_ racc))
        · have : a ≠ D := fun z => by rw [z, f1] at ha; cases ha
          show upd w2.φ D _ a = _
          rw [upd_ne this]
          exact lw.φ a o ha
        · refine ⟨Nat.le_refl _, fun _ _ => rfl, fun a o ha => ?_, rfl⟩
          have : a ≠ D := fun z => by
            have := (rm.dg D _ hgD).1
            rw [← z, ha] at this; cases this
          show upd w2.φ D _ a = _
          rw [upd_ne this]
          exact ha
      | true =>
        rw [if_pos rfl] at h3
        obtain ⟨lb, rb⟩ := rm.born hgD racc hg' fg
        have rl := RelD.loc (K := X.K) (mg := X.mg) (w := w2.born D w1.gr) (l := μ2.length) (by rw [← rm.n]; exact Nat.lt_succ_self _)
        rw [show (w2.born D w1.gr).ρ μ2.length = D by rw [← rm.n]; exact if_pos rfl] at rl
        exact h3 (w2.born D w1.gr) _ H ⟨Nat.le_trans lw.n (Nat.le_succ _), fun l hl => ((lw.trans lb).ρ l hl), lw.φ, lw.fr, rfl⟩ rb rl
theorem pi_nOf (h : PI X tg iter (TIm X S W mf)) : PI X tg iter (TNm X S W (nOf mf)) := PIi h fun σ H R ⟨w, δ, μ, q⟩ => ⟨w, δ, μ, (At.bind (f := fun items μ1 => .ok (nxL items, items.length + 1) μ1) q).mono fun J H1 ⟨w1, μ1, items, le, wk, h1⟩ => h1.2.2 w1 J H1 (Wd.Le.refl _) h1.2.1 (WalksN.of wk)⟩
theorem pi_nLoc (ha : PE X a (TEm X S W ma)) : PI X tg a (TNm X S W <| nLoc ma) := PIi (pi_list ha) fun σ H R ⟨w, δ, μ, h⟩ => ⟨w, δ, μ, (At.bind h).mono fun v H1 ⟨w1, μ1, d, le, rd, h1⟩ => by
  split at h1
  · next l =>
    split at h1
    · next xs hx =>
      obtain ⟨vs, h2, h4⟩ := h1.2.1.lst hx
      cases rd with
      | loc hl => exact ⟨_, rfl, ⟨vs, .inl (.inl h2)⟩, h1.2.2 w1 _ H1 (Wd.Le.refl _) h1.2.1 (walksN_loc hl)⟩
    · exact h1.2.2.elim
  · exact h1.2.2.elim⟩
theorem pi_nEnu (hg : Gl X "enumerate") (hm : X.mg "enumerate" = none) (ha : PA X [a] (TAm X S W mr)) (hs : starEach [a] X.env = [(false, eval a X.env)] := by rfl) :
    PI X (.Tuple elts kk tpos) (.Call (.Name "enumerate" p) [a] [] pos) (TNm X S W <| nEnu mr) := PIi (pi_eq' hg hm ha hs) fun σ H R ⟨w, δ, μ, h⟩ => ⟨w, δ, μ, (At.bind h).mono fun v H1 ⟨w1, μ1, d, le, rd, h1⟩ => by
  split at h1
  · next l =>
    split at h1
    · next xs hx =>
      obtain ⟨vs, h2, h4⟩ := h1.2.1.lst hx
      obtain ⟨u, rfl, ru⟩ := rd.one1
      cases ru with
      | loc hl => exact ⟨_, vs, false, rfl, .inl (.inl h2), h1.2.2 w1 _ H1 (Wd.Le.refl _) h1.2.1 (walksN_enu hl)⟩
    · exact h1.2.2.elim
  · exact h1.2.2.elim⟩
theorem pe_lcN (hc : X.calm = true) (hN : X.N.Nodup) (hi : PI X tg iter (TNm X S W mi)) (ok : BlkOk X.N X.env.scope scope own) (hn : NmTg X.K X.mg S (own.map (·.2)) gV g)
    (hg : ∀ (s : Shared) (H : Hp) (C : Addr) (cl : List (Str × Addr)) (fp : List Addr), PG (X.blk s H scope (compEnvC scope cl C X.env) fp) tg gV) (ht : ∀ (s : Shared) (H : Hp) (C : Addr) (cl : List (Str × Addr)) (fp : List Addr), PTs (X.blk s H scope (compEnvC scope cl C X.env) fp) ifs (TTm X S W0 mt))
    (he : ∀ (s : Shared) (H : Hp) (C : Addr) (cl : List (Str × Addr)) (fp : List Addr), PE (X.blk s H scope (compEnvC scope cl C X.env) fp) elt (TEm X S W0 me)) (hs : ∀ x, foldedSetIterable iter X.env x = pure x := by intro _; rfl) :
    PE X (.ListComp elt [⟨tg, iter, ifs, 0⟩] scope pos) (TEm X S W <| eLcN pl mi g mt me (own.map (·.2))) :=
  PEi (pe_lc hc hN hi ok hg ht he hs) fun σ H Q h => tLcN_of hn h
theorem ps_setLcN {i : Nat} {y : Str} {py spos : Pos} (hc : X.calm = true) (hN : X.N.Nodup) (hy : X.N[i]? = some y) (hyl : X.env.scope.names.lookup y = some .local)
    (hsw : swapsWith (.ListComp elt [⟨tg, iter, ifs, 0⟩] scope pos) (some (.Name y py)) spos.line X.env = pure true) (hi : PI X tg iter (TNm X S W mi)) (ok : BlkOk X.N X.env.scope scope own) (hn : NmTg X.K X.mg S (own.map (·.2)) gV g)
    (hg : ∀ (s : Shared) (H : Hp) (C : Addr) (cl : List (Str × Addr)) (fp : List Addr), PG (X.blk s H scope (compEnvC scope cl C X.env) fp) tg gV) (ht : ∀ (s : Shared) (H : Hp) (C : Addr) (cl : List (Str × Addr)) (fp : List Addr), PTs (X.blk s H scope (compEnvC scope cl C X.env) fp) ifs (TTm X S W0 mt))
    (he : ∀ (s : Shared) (H : Hp) (C : Addr) (cl : List (Str × Addr)) (fp : List Addr), PE (X.blk s H scope (compEnvC scope cl C X.env) fp) elt (TEm X S W0 me)) (hs : ∀ x, foldedSetIterable iter X.env x = pure x := by intro _; rfl) :
    PS X (.Assign [.Name y py] (.ListComp elt [⟨tg, iter, ifs, 0⟩] scope pos) spos) (TSm X S W <| sAsg (eLcN pl mi g mt me (own.map (·.2))) (gNm i)) :=
  PSi (ps_setLc hc hN hy hyl hsw hi ok hg ht he hs) fun D σ H ⟨w, δ, μ, rs, rm, h⟩ => tLcN_of hn ⟨w, δ, μ, (At.bindS rs rm h).mono fun v H1 ⟨w1, μ1, d, le, rd, rs1, rm1, q⟩ => q w1 _ H1 (Wd.Le.refl _) rm1 (rs1.set i rd)⟩
end
section
variable {X : Cx} {S : SI} {W : WX} {a b c : Expr} {ma mb mc : EM} {r r' : R2} {g g' : D → D → Mem → Option D} {pos : Pos} {op op' : CmpOp}
theorem pe_chn' (ho : OpR X (compareOp op) r) (ho' : OpR X (compareOp op') r') (hr : ∀ x y H Q, rD2 X.K X.mg S.T g x y H Q → r x y H Q) (hr' : ∀ x y H Q, rD2 X.K X.mg S.T g' x y H Q → r' x y H Q)
    (ha : PE X a (TEm X S W ma)) (hb : PE X b (TEm X S W mb)) (hc : PE X c (TEm X S W mc)) (hm : lastMarks [op, op'] [b, c] = false := by with_unfolding_all rfl) : PE X (.Compare a [op, op'] [b, c] pos) (TEm X S W <| eChn g g' ma mb mc) :=
  pe_chn (fun _ _ _ ha hb hc => pe_chain ho ho' ha hb hc hm) hr hr' ha hb hc
theorem pt_chn' (ho : OpR X (compareOp op) r) (ho' : OpR X (compareOp op') r') (hr : ∀ x y H Q, rD2 X.K X.mg S.T g x y H Q → r x y H Q) (hr' : ∀ x y H Q, rD2 X.K X.mg S.T g' x y H Q → r' x y H Q)
    (ha : PE X a (TEm X S W ma)) (hb : PE X b (TEm X S W mb)) (hc : PE X c (TEm X S W mc)) (hm : lastMarks [op, op'] [b, c] = false := by with_unfolding_all rfl) : PT X (.Compare a [op, op'] [b, c] pos) (TTm X S W <| tBl (eChn g g' ma mb mc)) :=
  pt_chn (fun _ _ _ ha hb hc => pt_chain ho ho' ha hb hc hm) hr hr' ha hb hc
end
end Kw

set_option Elab.async false
set_option linter.all false
set_option maxRecDepth 100000
namespace Kw
open PySem PySem.Spec PyProof.Rows L2
/-! ### more for the plain functions -/
theorem lcL_map {α : Type} {e : α → D} {me : EM} {δ : Sv} {μ : Mem} {f : α → D} {i : Nat} : ∀ (xs : List α), (∀ a ∈ xs, me (δ.set i (some (e a))) μ = .ok (f a) μ) → lcL (gNm i) tYesM me δ (xs.map e) μ = .ok (xs.map f) μ
  | [], _ => rfl
  | a :: xs, h => by
    have ih := lcL_map xs fun b hb => h b (List.mem_cons_of_mem _ hb)
    have h0 := h a List.mem_cons_self
    simp only [List.map_cons, lcL, gNm_run, tYes_run, h0, ih]
theorem lcL_filt {α : Type} {e : α → D} {mt : TM} {me : EM} {δ : Sv} {μ : Mem} {t : α → Bool} {f : α → D} {i : Nat} : ∀ (xs : List α), (∀ a ∈ xs, mt (δ.set i (some (e a))) μ = .ok (t a) μ ∧ (t a = true → me (δ.set i (some (e a))) μ = .ok (f a) μ)) → lcL (gNm i) mt me δ (xs.map e) μ = .ok ((xs.filter t).map f) μ
  | [], _ => rfl
  | a :: xs, h => by
    have ih := lcL_filt xs fun b hb => h b (List.mem_cons_of_mem _ hb)
    obtain ⟨h0, h1⟩ := h a List.mem_cons_self
    cases ht : t a with
    | true =>
      have h1 := h1 ht
      simp only [List.map_cons, lcL, gNm_run, h0, ht, h1, ih, List.filter_cons, if_true]
    | false => simp only [List.map_cons, lcL, gNm_run, h0, ht, ih, List.filter_cons, if_neg Bool.false_ne_true]
theorem lcL_zip2 {α β : Type} {e1 : α → D} {e2 : β → D} {me : EM} {δ : Sv} {μ : Mem} {f : α → β → D} {i j : Nat} : ∀ (xs : List α) (ys : List β), (∀ a ∈ xs, ∀ b ∈ ys, me ((δ.set i (some (e1 a))).set j (some (e2 b))) μ = .ok (f a b) μ) →
    lcL (gSeq 2 (gsCons (gNm i) (gsCons (gNm j) gsNil))) tYesM me δ (zipD (xs.map e1) (ys.map e2)) μ = .ok (List.zipWith f xs ys) μ
  | [], ys, _ => rfl
  | a :: xs, [], _ => rfl
  | a :: xs, b :: ys, h => by
    have ih := lcL_zip2 xs ys fun a' ha b' hb => h a' (List.mem_cons_of_mem _ ha) b' (List.mem_cons_of_mem _ hb)
    have h0 := h a List.mem_cons_self b List.mem_cons_self
    have g0 : gSeq 2 (gsCons (gNm i) (gsCons (gNm j) gsNil)) (.tup [e1 a, e2 b]) δ μ = .nx ((δ.set i (some (e1 a))).set j (some (e2 b))) μ := rfl
    simp only [List.map_cons, zipD, lcL, g0, tYes_run, h0, ih, List.zipWith_cons_cons]
theorem loopS_at {g : GM} {b : SM} {I : Nat → Sv → Mem → Prop} : ∀ (items : List D) (k0 : Nat) {δ : Sv} {μ : Mem}, (∀ k d δ μ, items[k]? = some d → I (k0 + k) δ μ → ∃ δ1 δ2 μ1 μ2, g d δ μ = .nx δ1 μ1 ∧ (b δ1 μ1 = .nx δ2 μ2 ∨ b δ1 μ1 = .ct δ2 μ2) ∧ I (k0 + k + 1) δ2 μ2) → I k0 δ μ →
    ∃ δ' μ', loopS g b items δ μ = .nx δ' μ' ∧ I (k0 + items.length) δ' μ'
  | [], k0, δ, μ, _, hi => ⟨δ, μ, rfl, hi⟩
  | d :: ds, k0, δ, μ, h, hi => by
    obtain ⟨δ1, δ2, μ1, μ2, h1, h2, h3⟩ := h 0 d δ μ rfl hi
    obtain ⟨δ', μ', h4, h5⟩ := loopS_at ds (k0 + 1) (fun k e δ μ hk hI => by
      have := h (k + 1) e δ μ (by simpa using hk) (by rw [show k0 + (k + 1) = k0 + 1 + k by omega]; exact hI)
      rw [show k0 + (k + 1) + 1 = k0 + 1 + k + 1 by omega] at this
      exact this) h3
    refine ⟨δ', μ', ?_, by rw [List.length_cons, show k0 + (ds.length + 1) = k0 + 1 + ds.length by omega]; exact h5⟩
    unfold loopS
    rw [h1]
    simp only
    rcases h2 with h2 | h2 <;> rw [h2] <;> exact h4
/-- a comprehension over a place, where nothing changes -/
theorem lcN_map {α : Type} {e : Nat → α → D} {nx : Nx} {g : GM} {mt : TM} {me : EM} {δ : Sv} {μ : Mem} {t : Nat → α → Bool} {f : Nat → α → D} {n : Nat} (he : nx n μ = some none) : ∀ (xs : List α) (k m : Nat), k + xs.length = n → xs.length < m → (∀ j a, xs[j]? = some a → nx (k + j) μ = some (some (e (k + j) a)) ∧ ∃ δ', g (e (k + j) a) δ μ = .nx δ' μ ∧ mt δ' μ = .ok (t (k + j) a) μ ∧ (t (k + j) a = true → me δ' μ = .ok (f (k + j) a) μ)) →
    lcN nx g mt me δ m k μ = .ok (((xs.zipIdx k).filter fun p => t p.2 p.1).map fun p => f p.2 p.1) μ
  | [], k, m, h, hm, _ => by
    cases m with
    | zero => simp at hm
    | succ m =>
      have : k = n := by simpa using h
      subst this
      simp [lcN, he]
  | a :: xs, k, m, h, hm, hs => by
    cases m with
    | zero => simp at hm
    | succ m =>
      obtain ⟨h1, δ', h2, h3, h4⟩ := hs 0 a rfl
      rw [Nat.add_zero] at h1 h2 h3 h4
      have ih := lcN_map he xs (k + 1) m (by simp at h; omega) (by simp at hm; omega) fun j b hj => by
        have := hs (j + 1) b (by simpa using hj)
        rw [show k + (j + 1) = k + 1 + j by omega] at this
        exact this
      unfold lcN
      rw [h1]
      simp only
      rw [h2]
      simp only
      rw [h3]
      cases ht : t k a with
      | true =>
        have h4 := h4 ht
        simp only
        rw [h4]
        simp only
        rw [ih]
        simp [List.zipIdx_cons, List.filter_cons, ht]
      | false =>
        simp only
        rw [ih]
        simp [List.zipIdx_cons, List.filter_cons, ht]
theorem rng_ok {j : Int} (h0 : 0 ≤ j) (h : j ≤ 1000000) : -4611686018427387904 ≤ j ∧ j < 4611686018427387904 := ⟨by omega, by omega⟩
theorem range1_j {mr : AM} {δ : Sv} {μ μ1 : Mem} {j : Int} (h : mr δ μ = .ok [.int j] μ1) (h0 : 0 ≤ j) (hn : j ≤ 1000000) : iRange1 mr δ μ = .ok ((List.range j.toNat).map fun (k : Nat) => .int (k : Int)) μ1 := by
  unfold iRange1
  rw [h]
  simp only [bind_ok]
  rw [if_pos (rng_ok h0 hn)]
theorem range1_run {mr : AM} {δ : Sv} {μ μ1 : Mem} {n : Nat} (h : mr δ μ = .ok [.int (n : Int)] μ1) (hn : (n : Int) ≤ 1000000) : iRange1 mr δ μ = .ok ((List.range n).map fun (k : Nat) => .int (k : Int)) μ1 := by
  have := range1_j h (Int.natCast_nonneg n) hn
  rwa [Int.toNat_natCast] at this
theorem loc_ints (sc : Bool) (k : Nat) : ∀ l : List Int, locBs sc k (l.map D.int) = true
  | [] => rfl
  | a :: l => by simp [locBs, locB, loc_ints sc k l]
theorem loc_map {α : Type} {e : α → D} {sc : Bool} {k : Nat} : ∀ l : List α, (∀ a ∈ l, locB sc k (e a) = true) → locBs sc k (l.map e) = true
  | [], _ => rfl
  | a :: l, h => by simp [locBs, h a List.mem_cons_self, loc_map l fun b hb => h b (List.mem_cons_of_mem _ hb)]
theorem ix_nat {xs : List D} {μ : Mem} {k : Nat} {x : D} (h : seqOf μ x = some xs) : gIx x (.int (k : Int)) μ = xs[k]? := by
  unfold gIx
  simp only [h]
  unfold atI ixN
  rw [if_pos (by omega)]
  by_cases hk : k < xs.length
  · rw [if_pos (by omega)]
    simp
  · rw [if_neg (by omega), List.getElem?_eq_none (by omega)]
    rfl
/-- a slot's value -/
def vOf (o : Option (Option D)) (μ : Mem) : Out D := match o with
  | some (some d) => match d with
    | .lam => .stuck
    | .exc _ _ => .stuck
    | d => .ok d μ
  | _ => .stuck
theorem eVar_run {i : Nat} {δ : Sv} {μ : Mem} : eVar i δ μ = vOf δ[i]? μ := nr rfl
section
variable {μ : Mem}
@[simp] theorem vOf_int {i : Int} : vOf (some (some (.int i))) μ = .ok (.int i) μ := nr rfl
@[simp] theorem vOf_non : vOf (some (some .non)) μ = .ok .non μ := nr rfl
@[simp] theorem vOf_bl {b : Bool} : vOf (some (some (.bl b))) μ = .ok (.bl b) μ := nr rfl
@[simp] theorem vOf_str {x : Str} : vOf (some (some (.str x))) μ = .ok (.str x) μ := nr rfl
@[simp] theorem vOf_tup {xs : List D} : vOf (some (some (.tup xs))) μ = .ok (.tup xs) μ := nr rfl
@[simp] theorem vOf_lst {xs : List D} : vOf (some (some (.lst xs))) μ = .ok (.lst xs) μ := nr rfl
@[simp] theorem vOf_scr {xs : List D} : vOf (some (some (.scr xs))) μ = .ok (.scr xs) μ := nr rfl
@[simp] theorem vOf_loc {l : Nat} : vOf (some (some (.loc l))) μ = .ok (.loc l) μ := nr rfl
end
theorem same_repr (b : Bool) (μ : Mem) : ∃ s, gRepr [.lst [.bl b, .bl b]] μ = some (.str s) ∧ gNe (.str s) (.str s) μ = some (.bl false) := by
  cases b
  · exact ⟨(PyData.list [.bool false, .bool false]).shown, rfl, by kernel_rfl⟩
  · exact ⟨(PyData.list [.bool true, .bool true]).shown, rfl, by kernel_rfl⟩
end Kw

set_option Elab.async false
set_option linter.all false
set_option maxRecDepth 100000
namespace Kw
open PySem PySem.Spec PyProof.Rows L2
/-! ### still more for the plain functions -/
theorem seq_nx {m1 m2 : SM} {δ δ1 : Sv} {μ μ1 : Mem} (h : m1 δ μ = .nx δ1 μ1) : sSeq m1 m2 δ μ = m2 δ1 μ1 := by rw [sSeq_run, h]; rfl
@[simp] theorem then_ct {δ : Sv} {μ : Mem} {k : Sv → Mem → SOut} : (SOut.ct δ μ).then k = .ct δ μ := nr rfl
@[simp] theorem then_bk {δ : Sv} {μ : Mem} {k : Sv → Mem → SOut} : (SOut.bk δ μ).then k = .bk δ μ := nr rfl
@[simp] theorem sCont_run {δ : Sv} {μ : Mem} : sCont δ μ = .ct δ μ := nr rfl
@[simp] theorem sBreak_run {δ : Sv} {μ : Mem} : sBreak δ μ = .bk δ μ := nr rfl
theorem map_eraseI {α β : Type} (f : α → β) : ∀ (l : List α) (i : Nat), (l.map f).eraseIdx i = (l.eraseIdx i).map f
  | [], _ => rfl
  | a :: l, 0 => rfl
  | a :: l, i + 1 => by
    have := map_eraseI f l i
    simp [this]
theorem pop_at {xs : List D} {l k : Nat} {μ : Mem} {x : D} (h : μ[l]? = some (.lst xs)) (hk : xs[k]? = some x) (hs : k ≤ 1000000) : gPop (.loc l) [.int (k : Int)] μ = some (x, μ.set l (.lst (xs.eraseIdx k))) := by
  have hl : k < xs.length := (List.getElem?_eq_some_iff.mp hk).1
  have hsq : seqIndex? (k : Int) xs.length = some k := by
    have := seqIndex_of (k := (k : Int)) (n := xs.length) (by omega) (by omega)
    simpa using this
  have hb : (-9223372036854775808 : Int) ≤ k ∧ (k : Int) < 9223372036854775808 := by omega
  unfold gPop
  simp only [h]
  rw [if_pos hb, hsq]
  simp only [hk]
theorem mtL_pop {l : Nat} {μ μ2 : Mem} {xs : List D} {ma : AM} {mo : EM} {δ : Sv} {r : D × Mem} {as : List D} (ho : mo δ μ = .ok (.loc l) μ) (h : μ[l]? = some (.lst xs)) (ha : ma δ μ = .ok as μ2) (hp : gPop (.loc l) as μ2 = some r) : eMtL gPop mo ma δ μ = .ok r.1 r.2 := by
  have : lstX μ (.loc l) = some xs := by simp [lstX, h]
  simp [ho, this, ha, hp]
  rfl
theorem append_at {xs : List D} {l : Nat} {μ : Mem} {y : D} (h : μ[l]? = some (.lst xs)) (hs : xs.length ≤ 1000000) : gAppend (.loc l) [y] μ = some (.non, μ.set l (.lst (xs ++ [y]))) := by
  have : xs.length < sizeLine := by show _ < 2 ^ 24; omega
  simp [gAppend, h, this]
theorem asg_nx {ma : EM} {δ : Sv} {μ μ1 : Mem} {d : D} {i : Nat} (h : ma δ μ = .ok d μ1) : sAsg ma (gNm i) δ μ = .nx (δ.set i (some d)) μ1 := by rw [sAsg_run, h]; rfl
theorem body_ret {N : Nat} {m : SM} {ds : List D} {μ μ' : Mem} {δ : Sv} {d : D} (hδ : ds.map some ++ List.replicate (N - ds.length) none = δ) (h : m δ μ = .ret d μ') : bodyM N m ds μ = .ok d μ' := by
  unfold bodyM
  rw [hδ, h]
/-- a comprehension over a place, nothing filtered, nothing changed -/
theorem loc_map' {α : Type} {e : α → D} {pl : Bool} {me : EM} {δ : Sv} {μ : Mem} {f : α → D} {i j l : Nat} {xs : List α} (hv : δ[j]? = some (some (.loc l))) (hl : μ[l]? = some (.lst (xs.map e))) (hn : xs.length ≤ 1000000) (hi : i < δ.length)
    (h : ∀ a ∈ xs, me (δ.set i (some (e a))) μ = .ok (f a) μ) : eLcN pl (nLoc (eVar j)) (gNm i) tYesM me [i] δ μ = if pl = true then .ok (.loc μ.length) (μ ++ [.lst (xs.map f)]) else .ok (.lst (xs.map f)) μ := by
  have hlc := lcN_map (e := fun _ a => e a) (nx := nxLoc l) (g := gNm i) (mt := tYesM) (me := me) (δ := δ.set i none) (μ := μ) (t := fun _ _ => true) (f := fun _ a => f a) (n := xs.length) (by simp [nxLoc, hl]) xs 0 (xs.length + 1) (by omega) (by omega) (fun j a ha => by
    have hjl := (List.getElem?_eq_some_iff.mp ha).1
    refine ⟨by simp [nxLoc, hl, ha]; omega, δ.set i (some (e a)), ?_, rfl, fun _ => h a (List.mem_of_getElem? ha)⟩
    rw [gNm_run, List.set_set])
  have e1 : ((xs.zipIdx 0).filter fun p => (fun _ _ => true) p.2 p.1).map (fun p => (fun _ a => f a) p.2 p.1) = xs.map f := by
    rw [List.filter_eq_self.mpr fun _ _ => rfl]
    refine List.ext_getElem (by simp) fun k h1 h2 => by simp
  rw [e1] at hlc
  have hv' : eVar j δ μ = .ok (.loc l) μ := by rw [eVar_run, hv]; rfl
  have sz : (xs.map f).length ≤ sizeLine := szK (by simpa using hn)
  have hn' : nLoc (eVar j) δ μ = .ok (nxLoc l, xs.length + 1) μ := by simp [nLoc, hv', hl]
  unfold eLcN
  rw [hn']
  simp only [bind_ok]
  have hw : wipeD δ [i] = δ.set i none := rfl
  rw [hw, hlc]
  simp only
  rw [if_pos sz]
where szK {n : Nat} (h : n ≤ 1000000) : n ≤ sizeLine := by show _ ≤ 2 ^ 24; omega
theorem lcL_enum {α : Type} {e : α → D} {me : EM} {δ : Sv} {μ : Mem} {f : Nat → α → D} {i j : Nat} : ∀ (xs : List α) (n : Nat), (∀ k a, xs[k]? = some a → me ((δ.set i (some (.int ((n + k : Nat) : Int)))).set j (some (e a))) μ = .ok (f (n + k) a) μ) →
    lcL (gSeq 2 (gsCons (gNm i) (gsCons (gNm j) gsNil))) tYesM me δ (enumD n (xs.map e)) μ = .ok ((xs.zipIdx n).map fun p => f p.2 p.1) μ
  | [], n, _ => rfl
  | a :: xs, n, h => by
    have ih := lcL_enum xs (n + 1) fun k b hb => by
      have := h (k + 1) b (by simpa using hb)
      rw [show n + (k + 1) = n + 1 + k by omega] at this
      exact this
    have h0 := h 0 a rfl
    rw [Nat.add_zero] at h0
    have g0 : gSeq 2 (gsCons (gNm i) (gsCons (gNm j) gsNil)) (.tup [.int (n : Int), e a]) δ μ = .nx ((δ.set i (some (.int (n : Int)))).set j (some (e a))) μ := rfl
    simp only [List.map_cons, enumD, lcL, g0, tYes_run, h0, ih, List.zipIdx_cons]
theorem lcL_pair {α : Type} {e1 e2 : α → D} {me : EM} {δ : Sv} {μ : Mem} {f : α → D} {i j : Nat} : ∀ (xs : List α), (∀ a ∈ xs, me ((δ.set i (some (e1 a))).set j (some (e2 a))) μ = .ok (f a) μ) →
    lcL (gSeq 2 (gsCons (gNm i) (gsCons (gNm j) gsNil))) tYesM me δ (xs.map fun a => .tup [e1 a, e2 a]) μ = .ok (xs.map f) μ
  | [], _ => rfl
  | a :: xs, h => by
    have ih := lcL_pair xs fun b hb => h b (List.mem_cons_of_mem _ hb)
    have h0 := h a List.mem_cons_self
    have g0 : gSeq 2 (gsCons (gNm i) (gsCons (gNm j) gsNil)) (.tup [e1 a, e2 a]) δ μ = .nx ((δ.set i (some (e1 a))).set j (some (e2 a))) μ := rfl
    simp only [List.map_cons, lcL, g0, tYes_run, h0, ih]
theorem flat_map_ints : ∀ l : List Int, (l.map D.int).all flatD = true
  | [] => rfl
  | a :: l => by simp [flatD, flat_map_ints l]
theorem eqF_map_ints (x : Int) : ∀ l : List Int, ((l.map D.int).any fun z => eqF z (.int x)) = l.contains x
  | [] => rfl
  | a :: l => by
    have := eqF_map_ints x l
    rw [List.map_cons, List.any_cons, this, List.contains_cons]
    congr 1
    show (a == x) = (x == a)
    exact BEq.comm
theorem nin_ints (x : Int) (l : List Int) (μ : Mem) : gNin (.int x) (.lst (l.map D.int)) μ = some (.bl !l.contains x) := by
  unfold gNin gOr2 gNinF inF
  simp only [seqOf, lstOf, flat_map_ints, flatD, Bool.and_self, if_true, eqF_map_ints, Option.map_some]
theorem any_map' {α : Type} (es : List α) (f : α → Bool) (μ : Mem) : gAny [.lst (es.map fun e => D.bl (f e))] μ = some (.bl (es.any f)) := by
  simp only [gAny, lstOf_lst', boolsOf_map, List.any_map]
  rfl
where lstOf_lst' {xs : List D} {μ : Mem} : lstOf μ (.lst xs) = some xs := rfl
/-- o[k] = v -/
theorem set_at {xs : List D} {l k : Nat} {μ : Mem} {y : D} (h : μ[l]? = some (.lst xs)) (hk : k < xs.length) : gSet (.loc l) (.int (k : Int)) y μ = some (μ.set l (.lst (xs.set k y))) := by
  unfold gSet
  simp only [h]
  have : ixN xs.length (k : Int) = some k := by
    unfold ixN
    rw [if_pos (by omega), if_pos (by omega)]
    simp
  rw [this]
/-! ### calls that may leave places of their own -/
theorem callM_any {m : FM} {ds : List D} {μ μ' : Mem} {d : D} (h : m ds μ = .ok d μ') (hl : μ.length ≤ μ'.length) : ∃ μ'', callM m ds μ = .ok d μ'' ∧ μ.length ≤ μ''.length ∧ ∀ i, i < μ.length → μ''[i]? = μ'[i]? := by
  unfold callM
  rw [h]
  simp only
  split
  · exact ⟨_, rfl, by rw [List.length_take]; omega, fun i hi => by rw [List.getElem?_take, if_pos hi]⟩
  · exact ⟨_, rfl, hl, fun _ _ => rfl⟩
/-- the places but l stay; there may be more -/
def Kp (l : Nat) (μ μ' : Mem) : Prop := μ.length ≤ μ'.length ∧ ∀ i, i < μ.length → i ≠ l → μ'[i]? = μ[i]?
theorem Kp.refl (l : Nat) (μ : Mem) : Kp l μ μ := ⟨Nat.le_refl _, fun _ _ _ => rfl⟩
theorem Kp.trans {l : Nat} {a b c : Mem} (x : Kp l a b) (y : Kp l b c) : Kp l a c := ⟨Nat.le_trans x.1 y.1, fun i h n => (y.2 i (Nat.lt_of_lt_of_le h x.1) n).trans (x.2 i h n)⟩
theorem Kp.of {l : Nat} {a b : Mem} (x : Stay l a b) : Kp l a b := ⟨Nat.le_of_eq x.1.symm, fun i _ n => x.2 i n⟩
theorem Kp.app (l : Nat) (μ : Mem) (b : Ob) : Kp l μ (μ ++ [b]) := ⟨by simp, fun i h _ => List.getElem?_append_left h⟩
/-- a change of a place that is new -/
theorem Kp.set {l k : Nat} {a b : Mem} {o : Ob} (x : Kp l a b) (hk : a.length ≤ k) : Kp l a (b.set k o) := ⟨by rw [List.length_set]; exact x.1, fun i h n => by rw [List.getElem?_set_ne (by omega)]; exact x.2 i h n⟩
theorem lcL_eff {α : Type} {e : α → D} {me : EM} {δ : Sv} {i : Nat} {I : Mem → Prop} {P : D → Prop} : ∀ (xs : List α) (μ : Mem), (∀ a ∈ xs, ∀ μ, I μ → ∃ y μ', me (δ.set i (some (e a))) μ = .ok y μ' ∧ I μ' ∧ P y) → I μ →
    ∃ ys μ', lcL (gNm i) tYesM me δ (xs.map e) μ = .ok ys μ' ∧ I μ' ∧ ys.length = xs.length ∧ ∀ y ∈ ys, P y
  | [], μ, _, h0 => ⟨[], μ, rfl, h0, rfl, fun y h => by simp at h⟩
  | a :: xs, μ, h, h0 => by
    obtain ⟨y, μ1, e1, h1, p⟩ := h a List.mem_cons_self μ h0
    obtain ⟨ys, μ2, e2, h2, hl, hp⟩ := lcL_eff xs μ1 (fun b hb => h b (List.mem_cons_of_mem _ hb)) h1
    refine ⟨y :: ys, μ2, ?_, h2, by simp [hl], fun z hz => (List.mem_cons.mp hz).elim (fun e => e ▸ p) (hp z)⟩
    simp only [List.map_cons, lcL, gNm_run, tYes_run, e1, e2]
theorem ints_of {Q : Int → Prop} : ∀ ys : List D, (∀ y ∈ ys, ∃ c, y = .int c ∧ Q c) → ∃ cs : List Int, ys = cs.map D.int ∧ ∀ c ∈ cs, Q c
  | [], _ => ⟨[], rfl, fun c h => by simp at h⟩
  | y :: ys, h => by
    obtain ⟨c, rfl, q⟩ := h y List.mem_cons_self
    obtain ⟨cs, rfl, hq⟩ := ints_of ys fun z hz => h z (List.mem_cons_of_mem _ hz)
    exact ⟨c :: cs, rfl, fun z hz => (List.mem_cons.mp hz).elim (fun e => e ▸ q) (hq z)⟩
theorem frz_at {δ : Sv} {μ : Mem} {i l : Nat} {xs : List D} (h1 : δ[i]? = some (some (.loc l))) (h2 : μ[l]? = some (.lst xs)) : sFrz i δ μ = .nx (δ.set i (some (.lst xs))) (μ.set l .gone) := by
  unfold sFrz
  rw [h1]
  simp only
  rw [h2]
theorem mtL_app {l : Nat} {μ μ2 : Mem} {xs ys : List D} {y : D} {ma : AM} {mo : EM} {δ : Sv} (ho : mo δ μ = .ok (.loc l) μ) (h : μ[l]? = some (.lst ys)) (ha : ma δ μ = .ok [y] μ2) (h2 : μ2[l]? = some (.lst xs)) (hs : xs.length ≤ 1000000) : eMtL gAppend mo ma δ μ = .ok .non (μ2.set l (.lst (xs ++ [y]))) := by
  have : lstX μ (.loc l) = some ys := by simp [lstX, h]
  simp [ho, this, ha, append_at h2 hs]
end Kw

set_option Elab.async false
set_option linter.all false
set_option maxRecDepth 100000
set_option maxHeartbeats 2000000
/-! an own error of one field, made and raised -/
namespace Kw
open PySem PySem.Spec PyProof.Rows L2
/-- C(e) -/
def tMkS (fld : Str) (C : Addr) (ta : TA) : L2.St → Hp → XK → Prop := fun σ H Q => ta σ H fun vs H1 => ∃ v, vs = [v] ∧ ∀ dx, H1 dx = none → Q (.ref C) (some dx) (upd H1 dx (.xd [(fld, v)]))
theorem xd_one {P : Program} {w : World} {H : Hp} {h : Heap} {dx : Addr} {fld : Str} {v : V} {u : Value} (r : L2.RelV v u) (hn : h.Ns1 dx fun y => if y = fld then some u else none) : ObjOk P w H h dx (.xd [(fld, v)]) := by
  refine ⟨_, hn, fun f => ?_⟩
  by_cases e : f = fld
  · subst e
    simp [List.lookup]
    exact r
  · have : (f == fld) = false := by simpa using e
    simp [List.lookup, this, e]
    trivial
theorem pmk_sup {X : Cx} {cn fld txt : Str} {C fI : Addr} {e : Expr} {ta : TA} {p pos : Pos} (T : PySem.KwX.SupTxt X.prog X.K X.mg cn fld txt C fI) (hr : Room 1 X.A) (hg : Gl X cn) (ha : PA X [e] ta)
    (hdb : (cn == ("__debug__" : Str)) = false := by decide) (he : starEach [e] X.env = (false, eval e X.env) :: starEach [] X.env := by rfl) (hpl : (backTo pos (starEach [] X.env)).any (·.1) = false := by rfl) :
    PMk X (.Call (.Name cn p) [e] [] pos) (tMkS fld C ta) := by
  intro pins s σ H Q I h
  obtain ⟨m1, m2, m3, m4, bm, m5, m6, m7, m8, m9, j0, j1, j2, j3, j5, clsAt, mroAt⟩ := T.cls
  refine wpAny_Call_Name_kw (ld_glob I hg T.gC ?_ hdb)
  refine PySem.W.callWith_K (h₀ := X.base) I.ok.mod.kin T.kC (thn (ha.run pos pins s σ H _ I h) fun us st ⟨vs, HH, J, rl, v, hv, told⟩ => ⟨J.kIn, ?_⟩) he hpl
  subst hv
  obtain ⟨u, rfl, ru⟩ : ∃ u, us = [u] ∧ L2.RelV v u := by
    cases rl with
    | cons a b => cases b; exact ⟨_, rfl, a⟩
  show wpAny _ _ (call (.ref C) [u]) _ _ _
  obtain ⟨hp, gg, dw, tk, oss⟩ := st
  obtain ⟨x, hx⟩ : ∃ x, x = hp.objs.size + 1 := ⟨_, rfl⟩
  have keep2 : ∀ b o, hp.get? b = some o → ((hp.push (PySem.W.kdv_tup [u])).push (PySem.HandSPX.excO C hp.objs.size)).get? b = some o := fun b o z => Heap.get?_push_of_some _ (Heap.get?_push_of_some _ z)
  have there : ((hp.push (PySem.W.kdv_tup [u])).push (PySem.HandSPX.excO C hp.objs.size)).get? (hp.objs.size + 1) = some (PySem.HandSPX.excO C hp.objs.size) := by heap_get
  have old : ∀ {b : Addr} {o : Obj}, hp.get? b = some o → b ≠ x := fun {b o} z y => by
    have lt := Heap.lt_size z
    rw [y, hx] at lt
    exact Nat.lt_irrefl _ (Nat.lt_of_succ_lt lt)
  obtain ⟨mb, hmb, hbb⟩ := J.mod.blt
  have nx : ∀ {b : Addr} {o : Obj}, X.base.get? b = some o → b ≠ x := fun {b o} z => old (J.bk _ _ z)
  have nK : X.K.lookup x = none := by
    cases z : X.K.lookup x with
    | none => rfl
    | some o => exact absurd rfl (nx (J.mod.kin _ _ z))
  have nG : ∀ {L : Addr} {m : Str → Option Value}, X.base.Ns L m → x ≠ L := fun {L m} ⟨o, es, ep, z, _⟩ y => nx z y.symm
  refine wpAny_call (PySem.HandSPX.call_own F.excBase_ValueError (fun Y => PySem.HandSPX.refsVE_contains Y bm mroAt) (J.kIn _ _ clsAt) (PySem.W.looks_findIn J.kIn T.iC) (fun self => PySem.W.bind_fn J.kIn self T.tC) (by rw [sizeLine_eq]; show 1 ≤ _; omega) ?_)
  rw [← hx]
  refine PySem.KwX.sup_init T (t0 := hp.objs.size) (mg := X.mg) (mb := mb) (J.kIn.keeps keep2) ((J.mod.glob.keeps J.bk).keeps keep2) ((hmb.keeps J.bk).keeps keep2) hbb (J.nolimit.keeps keep2) (by rw [hx]; exact there) nK ?_ (nG J.mod.glob) (nG hmb) fun h' tk' dx t1 ie => ?_
  · exact (hr.make C [u] []).depth
  refine ⟨rfl, ?_⟩
  obtain ⟨G, g1, g2⟩ := restrict h' fun b => decide (b ≠ x)
  have gk : ∀ b, b ≠ x → G.get? b = h'.get? b := fun b hb => g1 b (decide_eq_true hb)
  have ge : G.get? x = none := g2 x (by simp)
  have dx0 : hp.objs.size ≤ dx := Nat.le_trans (by simp [Heap.size_push]; omega) ie.dbig
  have J2 := J.laid (t' := tk') (a := dx) (o := .xd [(fld, v)]) (h' := G) (fun b o z => by
    rw [gk b (old z)]
    exact ie.keep b o (old z) (keep2 b o z)) dx0 (xd_one ru (by
      obtain ⟨o, es, ep, z, r⟩ := ie.ns
      exact ⟨o, es, ep, (gk dx ie.dne).trans z, r⟩))
  have nH : HH x = none := J.hok.fresh (by rw [hx]; exact Nat.le_succ _)
  exact ⟨x, _, _, ⟨G, gg, dw, tk', oss⟩, _, .ref C, some dx, rfl, J2, fun b o z => by
      by_cases hb : b = x
      · rw [hb, ge] at z
        cases z
      · rw [gk b hb] at z
        exact z, ge, ie.obj, ⟨rfl, rfl⟩, rfl, rfl, by rw [upd_ne (Ne.symm ie.dne)]; exact nH, rfl, J.bare, raises_own T.exC T.tyC, told dx (J.hok.fresh dx0)⟩
/-- raise x(e) -/
def sRaise (cn fld : Str) (ma : EM) : SM := fun δ μ => (ma δ μ).bindS δ fun d μ1 => .exc ⟨cn, [(fld, d)]⟩ δ μ1
section
variable {X : Cx} {S : SI} {W : WX} {e : Expr} {ma : EM} {cn fld txt : Str} {C fI : Addr} {p pos pos2 : Pos}
theorem ps_raiseS (T : PySem.KwX.SupTxt X.prog X.K X.mg cn fld txt C fI) (hc : X.calm = true) (tk : Takes X W) (hr : Room 1 X.A) (hg : Gl X cn) (ha : PE X e (TEm X S W ma)) (hdb : (cn == ("__debug__" : Str)) = false := by decide)
    (he : starEach [e] X.env = (false, eval e X.env) :: starEach [] X.env := by rfl) (hpl : (backTo pos (starEach [] X.env)).any (·.1) = false := by rfl) :
    PS X (.Raise (some (.Call (.Name cn p) [e] [] pos)) none pos2) (TSm X S W (sRaise cn fld ma)) :=
  PSi (ps_raise hc tk (pmk_sup T hr hg (pa_cons ha pa_nil he) hdb he hpl)) fun D σ H ⟨w, δ, μ, rs, rm, h⟩ => by
    refine ⟨w, δ, μ, (At.bindS rs rm h).mono fun v H1 ⟨w1, μ1, d, le, rd, rs1, rm1, q⟩ => ⟨v, rfl, fun dx hd => ?_⟩⟩
    have lay1 := rm1.lay_le hd (.xd [(fld, v)])
    have lay2 := rm1.lay hd (o := .xd [(fld, v)]) (fun ps => by nofun)
    exact q (w1.lay dx (.xd [(fld, v)])) (.ref C) (some dx) σ _ lay1 lay2 (rs1.mono lay1) ⟨C, dx, [(fld, v)], T.gC, rfl, rfl, upd_same, rfl, .cons (rd.mono lay1) .nil⟩
end
end Kw

set_option Elab.async false
set_option linter.all false
set_option maxRecDepth 100000
set_option maxHeartbeats 2000000
/-! try: .. except C as n: .., several clauses -/
namespace Kw
open PySem PySem.Spec PyProof.Rows L2
abbrev CT := Addr → Value → Option Addr → TS
/-- the ends of a suite whose name is slot i: the name goes -/
def endsAs (D : Ends) (i : Nat) : Ends := { nx := fun τ G => D.nx (τ.set i none) G, rt := D.rt, bk := fun τ G => D.bk (τ.set i none) G, ct := fun τ G => D.ct (τ.set i none) G }
def wishAs (K : PySem.W.Frag) (Wout : WX) (D : Ends) : List (Value × Nat × CT) → WX
  | [] => Wout
  | (c, i, ts) :: r => fun cls d τ G => ∃ b, PySem.W.exmOne K cls c = some b ∧ (b = true → ∀ a, G a = none → ts a cls d (endsAs D i) (τ.set i (some (.ref a))) G) ∧ (b = false → wishAs K Wout D r cls d τ G)
inductive HdsAs (X : Cx) : List ExceptHandler → List (Value × Nat × CT) → Prop
  | nil : HdsAs X [] []
  | cons {x n : Str} {c : Value} {i : Nat} {ts : CT} {b₀ : Stmt} {suite : List Stmt} {np pos' : Pos} {hds : List ExceptHandler} {l : List (Value × Nat × CT)} (named : Names X x c) (slot : X.N[i]? = some n) (own : X.env.kindOf n = some .local)
      (does : ∀ (a : Addr) (oe : Obj) (cls : Value) (d : Option Addr) (pn : List (Addr × Obj)), Zc cls d oe → (∃ vs, oe.data = .fields vs) → PSs (X.suite a ((a, oe) :: pn)) (b₀ :: suite) (ts a cls d)) (rest : HdsAs X hds l) :
      HdsAs X (.ExceptHandler (some (.Name x np)) (some n) (b₀ :: suite) pos' :: hds) ((c, i, ts) :: l)
  | cons0 {x : Str} {c : Value} {i : Nat} {ts : CT} {b₀ : Stmt} {suite : List Stmt} {np pos' : Pos} {hds : List ExceptHandler} {l : List (Value × Nat × CT)} (named : Names X x c) (out : X.N.length ≤ i)
      (does : ∀ (a : Addr) (oe : Obj) (cls : Value) (d : Option Addr) (pn : List (Addr × Obj)), Zc cls d oe → (∃ vs, oe.data = .fields vs) → PSs (X.suite a ((a, oe) :: pn)) (b₀ :: suite) (ts a cls d)) (rest : HdsAs X hds l) :
      HdsAs X (.ExceptHandler (some (.Name x np)) none (b₀ :: suite) pos' :: hds) ((c, i, ts) :: l)
section
variable {X : Cx} {pins : List (Addr × Obj)} {τ : L2.St} {G : Hp}
/-- an exception that has landed at a: what is known of it -/
structure Landed (X : Cx) (pins : List (Addr × Obj)) (τ : L2.St) (G : Hp) (a : Addr) (cls : Value) (d : Option Addr) (B : Heap) (sI s' : Shared) : Prop where
  inv : Inv X pins τ G sI
  ground : ∀ b o, sI.heap.get? b = some o → b ∉ frs X.stack → B.get? b = some o
  up : sI.heap.UpToSlots s'.heap
  fly : HandSPX.FlyingZ B (X.env :: X.outer) a (Zc cls d) s'.heap
  free : G a = none
  os : s'.os = sI.os
  bare : AllBare s'.gens
theorem Landed.inv' {a : Addr} {cls : Value} {d : Option Addr} {B : Heap} {sI s' : Shared} (L : Landed X pins τ G a cls d B sI s') : Inv X pins τ G s' := L.inv.landed L.ground L.fly.1 L.up L.os L.bare
theorem Landed.off {a : Addr} {cls : Value} {d : Option Addr} {B : Heap} {sI s' : Shared} (L : Landed X pins τ G a cls d B sI s') (hf : X.env.frame = some X.env.locals) : ∃ oe vs, s'.heap.get? a = some oe ∧ Zc cls d oe ∧ oe.data = .fields vs ∧ a ≠ X.env.locals ∧ a ∉ X.fs := by
  obtain ⟨oe, vs, at_, zc, dt⟩ := L.fly.there
  have away : a ∉ frs (X.env :: X.outer) := fun hm => by
    obtain ⟨_, o2, at2, no⟩ := L.fly.2.2.1.mem hm
    rw [at_] at at2
    cases at2
    exact no _ dt
  refine ⟨oe, vs, at_, zc, dt, fun z => away ?_, fun hm => away ?_⟩
  · exact List.mem_filterMap.mpr ⟨X.env, by simp, by rw [hf, z]⟩
  · obtain ⟨e, he, q⟩ := List.mem_filterMap.mp hm
    exact List.mem_filterMap.mpr ⟨e, by simp [he], q⟩
/-- no clause is left: it goes on -/
theorem hds_out {a : Addr} {cls : Value} {d : Option Addr} {B : Heap} {sI s' : Shared} {D : Ends} {Wout : WX} (L : Landed X pins τ G a cls d B sI s') (hs : X.stack = X.env :: X.outer) (hf : X.env.frame = some X.env.locals) (tk : Takes X Wout) (w : Wout cls d τ G) :
    wpAny (model X.prog X.w) X.A (handleBy (.ref a) X.env []) (SP X pins D) X.xe s' := by
  refine wpAny_handleBy_nil ?_
  have on : wpAny (model X.prog X.w) X.A (setFlight (.ref a) X.env.frame) (fun _ s4 => wpAny (model X.prog X.w) X.A (throw (.ref a) : Sem Flow) (SP X pins D) X.xe s4) X.xe s' := by
    rw [hf]
    refine HandSPX.setFlight_upZ L.fly fun h4 hold up4 => wpAny_throw (tk _ _ ?_)
    exact ⟨a, B, sI, pins, τ, G, cls, d, rfl, L.inv, L.ground, L.up.trans up4, .inr (.inr (by rw [hs]; exact hold)), L.free, L.os, L.bare, w⟩
  obtain ⟨_, _, _, oe, vs, tb, _, _, at_, _, dt, one, _⟩ := id L.fly
  unfold PySem.passOn
  refine wpAny_bind (wpAny_field at_ dt one ?_)
  have nn : ¬ ((Value.ref tb == Value.none) = true) := by simp
  rw [if_neg nn]
  first
    | exact wpAny_bind (wpAny_pure (wpAny_bind on))
    | exact wpAny_bind on
/-- the name of the clause goes, the suite is left -/
theorem suite_out {a : Addr} {oe : Obj} {pn : List (Addr × Obj)} {D : Ends} {i : Nat} {n : Str} {pos' : Pos} {s6 : Shared} {f : Flow} (ok : X.Ok) (hN : X.N.Nodup) (slot : X.N[i]? = some n) (own : X.env.kindOf n = some .local)
    (hsp : SP (X.suite a ((a, oe) :: (X.pn ++ pins))) [] (endsAs D i) f s6) : wpAny (model X.prog X.w) X.A (do bindName X.env n .none; unbindBehindTheSuite X.env n pos') (fun _ s7 => SP X pins D f s7) X.xe s6 := by
  have gone : ∀ {τ6 : L2.St} {G6 : Hp} {Q : Shared → Prop}, Inv (X.suite a ((a, oe) :: (X.pn ++ pins))) [] τ6 G6 s6 → (∀ s7, Inv X pins (τ6.set i none) G6 s7 → Q s7) →
      wpAny (model X.prog X.w) X.A (do bindName X.env n .none; unbindBehindTheSuite X.env n pos') (fun _ s7 => Q s7) X.xe s6 := fun {τ6 G6 Q} J q => gone_ok (J.unsuite ok) hN slot own q
  cases f with
  | ret u =>
    obtain ⟨v, t6, g6, J, rv, q⟩ := hsp
    exact gone J fun s7 J7 => ⟨_, _, _, J7, rv, q⟩
  | next =>
    obtain ⟨t6, g6, J, q⟩ := hsp
    exact gone J fun s7 J7 => ⟨_, _, J7, q⟩
  | brk =>
    obtain ⟨t6, g6, J, q⟩ := hsp
    exact gone J fun s7 J7 => ⟨_, _, J7, q⟩
  | cont =>
    obtain ⟨t6, g6, J, q⟩ := hsp
    exact gone J fun s7 J7 => ⟨_, _, J7, q⟩
theorem suite_out0 {a : Addr} {oe : Obj} {D : Ends} {i : Nat} {s6 : Shared} {f : Flow} (ok : X.Ok) (out : X.N.length ≤ i)
    (hsp : SP (X.suite a ((a, oe) :: (X.pn ++ pins))) [] (endsAs D i) f s6) : SP X pins D f s6 := by
  have same : ∀ {t6 : L2.St} {g6 : Hp}, Inv X pins t6 g6 s6 → t6.set i none = t6 := fun J => List.set_eq_of_length_le (by rw [J.len]; exact out)
  cases f with
  | ret u =>
    obtain ⟨v, t6, g6, J, rv, q⟩ := hsp
    exact ⟨v, t6, g6, J.unsuite ok, rv, q⟩
  | next =>
    obtain ⟨t6, g6, J, q⟩ := hsp
    have J' : Inv X pins t6 g6 s6 := J.unsuite ok
    exact ⟨t6, g6, J', by have q' : D.nx (t6.set i none) g6 := q; rwa [same J'] at q'⟩
  | brk =>
    obtain ⟨t6, g6, J, q⟩ := hsp
    have J' : Inv X pins t6 g6 s6 := J.unsuite ok
    exact ⟨t6, g6, J', by have q' : D.bk (t6.set i none) g6 := q; rwa [same J'] at q'⟩
  | cont =>
    obtain ⟨t6, g6, J, q⟩ := hsp
    have J' : Inv X pins t6 g6 s6 := J.unsuite ok
    exact ⟨t6, g6, J', by have q' : D.ct (t6.set i none) g6 := q; rwa [same J'] at q'⟩
theorem hds_run {a : Addr} {cls : Value} {d : Option Addr} {B : Heap} {sI s' : Shared} {D : Ends} {Wout : WX} (L : Landed X pins τ G a cls d B sI s') (hs : X.stack = X.env :: X.outer) (hf : X.env.frame = some X.env.locals) (hN : X.N.Nodup) (tk : Takes X Wout)
    {hds : List ExceptHandler} {l : List (Value × Nat × CT)} (hh : HdsAs X hds l) (w : wishAs X.K Wout D l cls d τ G) : wpAny (model X.prog X.w) X.A (handleBy (.ref a) X.env hds) (SP X pins D) X.xe s' := by
  have ok := L.inv.ok
  obtain ⟨oe, vs, at_, zc, dt, nl, nf⟩ := L.off hf
  have inSuite := L.inv'.suite at_ dt L.free nl nf
  induction hh with
  | nil => exact hds_out L hs hf tk w
  | @cons x n c i ts b₀ suite np pos' hds2 l2 named slot own does rest ih =>
    obtain ⟨b, said, yes, no⟩ := w
    have asks : ∀ {Q E : Value → Shared → Prop}, Q c s' → wpAny (model X.prog X.w) (X.A.mark (some (.ref a))) (eval (.Name x np) X.env) Q E s' := fun {Q E} q => by
      obtain ⟨h1, h2, h3 | ⟨h3, h4, h5⟩⟩ := named
      · exact ld_glob (X := X.suite a ((a, oe) :: (X.pn ++ pins))) inSuite h1 h3 q h2
      · exact ld_blt (X := X.suite a ((a, oe) :: (X.pn ++ pins))) inSuite h1 h3 h4 q h5 h2
    have ty : PySem.W.Looks (model X.prog X.w) s'.heap (typeOf (.ref a)) cls := fun _ _ _ t k q => wpAny_typeOf_ref (k _ _ at_) (by rw [zc.1]; exact q)
    have match_ := PySem.W.exm_one (M := model X.prog X.w) L.inv'.kIn ty said
    refine wpAny_handleBy_cons (codeAny_handlers_test (asks (match_.here ?_))) (by intro q; cases q)
    cases b with
    | false => exact ih (no rfl)
    | true =>
      refine codeAny_handlers_suite_as (HandSPX.lands_againZ L.fly fun h4 fly4 up4 => ?_)
      have L4 : Landed X pins τ G a cls d B sI { s' with heap := h4 } := ⟨L.inv, L.ground, L.up.trans up4, fly4, L.free, L.os, L.bare⟩
      obtain ⟨oe4, vs4, at4, zc4, dt4, _, _⟩ := L4.off hf
      have in4 := L4.inv'.suite at4 dt4 L.free nl nf
      refine store_ok (X := X.suite a ((a, oe4) :: (X.pn ++ pins))) (v := .ref a) in4 hN slot (.inl own) rfl (fun s5 in5 => ?_) (.inr own)
      exact wpAny_mono ((does a oe4 cls d (X.pn ++ pins) zc4 ⟨_, dt4⟩).run [] s5 _ G _ in5 (yes rfl a L.free)) (fun f s6 hsp => suite_out (pn := X.pn) ok hN slot own hsp) fun _ _ z => z.elim
  | @cons0 x c i ts b₀ suite np pos' hds2 l2 named out does rest ih =>
    obtain ⟨b, said, yes, no⟩ := w
    have asks : ∀ {Q E : Value → Shared → Prop}, Q c s' → wpAny (model X.prog X.w) (X.A.mark (some (.ref a))) (eval (.Name x np) X.env) Q E s' := fun {Q E} q => by
      obtain ⟨h1, h2, h3 | ⟨h3, h4, h5⟩⟩ := named
      · exact ld_glob (X := X.suite a ((a, oe) :: (X.pn ++ pins))) inSuite h1 h3 q h2
      · exact ld_blt (X := X.suite a ((a, oe) :: (X.pn ++ pins))) inSuite h1 h3 h4 q h5 h2
    have ty : PySem.W.Looks (model X.prog X.w) s'.heap (typeOf (.ref a)) cls := fun _ _ _ t k q => wpAny_typeOf_ref (k _ _ at_) (by rw [zc.1]; exact q)
    have match_ := PySem.W.exm_one (M := model X.prog X.w) L.inv'.kIn ty said
    refine wpAny_handleBy_cons (codeAny_handlers_test (asks (match_.here ?_))) (by intro q; cases q)
    cases b with
    | false => exact ih (no rfl)
    | true =>
      refine codeAny_handlers_suite (HandSPX.lands_againZ L.fly fun h4 fly4 up4 => ?_)
      have L4 : Landed X pins τ G a cls d B sI { s' with heap := h4 } := ⟨L.inv, L.ground, L.up.trans up4, fly4, L.free, L.os, L.bare⟩
      obtain ⟨oe4, vs4, at4, zc4, dt4, _, _⟩ := L4.off hf
      have in4 := L4.inv'.suite at4 dt4 L.free nl nf
      have yes' := yes rfl a L.free
      rw [List.set_eq_of_length_le (by rw [L.inv.len]; exact out)] at yes'
      exact wpAny_mono ((does a oe4 cls d (X.pn ++ pins) zc4 ⟨_, dt4⟩).run [] _ _ G _ in4 yes') (fun f s6 hsp => suite_out0 ok out hsp) fun _ _ z => z.elim
theorem ps_try_hds {body : List Stmt} {h₀ : ExceptHandler} {hds : List ExceptHandler} {l : List (Value × Nat × CT)} {pos : Pos} {tb : WX → TS} {Wout : WX} (hs : X.stack = X.env :: X.outer) (hf : X.env.frame = some X.env.locals) (hN : X.N.Nodup) (tk : Takes X Wout)
    (does : ∀ (W : WX) (pn : List (Addr × Obj)) (xe : Value → Shared → Prop), Takes (X.tr pn xe) W → PassesOwn (model X.prog X.w) X.A X.env xe → PSs (X.tr pn xe) body (tb W)) (hh : HdsAs X (h₀ :: hds) l) :
    PS X (.Try body (h₀ :: hds) [] [] pos) (fun D τ G => tb (wishAs X.K Wout D l) D τ G) := by
  refine ⟨fun pins s τ G D I h => wpAny_Try_except ?_⟩
  have ok := I.ok
  have hfr : X.A.frames = some (X.env :: X.outer) := ok.frames.trans (by rw [hs])
  refine wpAny_mono ((does (wishAs X.K Wout D l) (X.pn ++ pins) (fun e t1 => wpAny (model X.prog X.w) X.A (noteFrame e X.env) (fun _ t2 => wpAny (model X.prog X.w) X.A (setFlight e none) (fun _ t3 =>
    wpAny (model X.prog X.w) X.A (handleBy e X.env (h₀ :: hds)) (SP X pins D) X.xe t3) X.xe t2) X.xe t1) (fun u s' caught => ?_) PassesOwn.looking).run [] s τ G D (I.toTry _) h) (fun f s1 hsp => ?_) fun _ _ z => z
  · obtain ⟨a, B, sI, pins', τ', G', cls, d, rfl, J', ground, up, sky, na, os, ag, w⟩ := caught
    have J : Inv X pins τ' G' sI := J'.ofTry ok
    show wpAny (model X.prog X.w) X.A (noteFrame (.ref a) X.env) _ _ _
    refine Sky.land Zc.steady hfr hf (by rw [← hs]; exact sky) fun h3 fly3 up3 => ?_
    exact hds_run (s' := { s' with heap := h3 }) ⟨J, ground, up.trans up3, fly3, na, os, ag⟩ hs hf hN tk hh w
  · cases f with
    | ret u =>
      obtain ⟨v, t1, g1, J, rv, q⟩ := hsp
      exact ⟨v, t1, g1, J.ofTry ok, rv, q⟩
    | next =>
      obtain ⟨t1, g1, J, q⟩ := hsp
      exact wpAny_execs_nil ⟨t1, g1, J.ofTry ok, q⟩
    | brk =>
      obtain ⟨t1, g1, J, q⟩ := hsp
      exact ⟨t1, g1, J.ofTry ok, q⟩
    | cont =>
      obtain ⟨t1, g1, J, q⟩ := hsp
      exact ⟨t1, g1, J.ofTry ok, q⟩
end
end Kw

set_option Elab.async false
set_option linter.all false
set_option maxRecDepth 100000
set_option maxHeartbeats 2000000
/-! try, by data; the exception that a suite holds -/
namespace Kw
open PySem PySem.Spec PyProof.Rows L2
def noX : Option D → Bool
  | some (.exc _ _) => false
  | _ => true
/-- behind a suite whose name is slot i -/
def unNm (i : Nat) : SOut → SOut
  | .nx δ μ => if (δ.set i none).all noX = true then .nx (δ.set i none) μ else .stuck
  | .ret d μ => .ret d μ
  | .bk δ μ => if (δ.set i none).all noX = true then .bk (δ.set i none) μ else .stuck
  | .ct δ μ => if (δ.set i none).all noX = true then .ct (δ.set i none) μ else .stuck
  | _ => .stuck
/-- what is known of which class matches which: tab x c -/
abbrev ExT := List ((Str × Str) × Bool)
def goH (tab : ExT) (x : Xn) : List (Str × Nat × SM) → SM
  | [], δ, μ => .exc x δ μ
  | (c, i, m) :: r, δ, μ => match tab.lookup (x.cls, c) with
    | some true => if δ.all noX = true then unNm i (m (δ.set i (some (.exc x.cls x.fs))) μ) else .stuck
    | some false => goH tab x r δ μ
    | none => .stuck
def sTry (tab : ExT) (b : SM) (hs : List (Str × Nat × SM)) : SM := fun δ μ => match b δ μ with
  | .exc x δ1 μ1 => goH tab x hs δ1 μ1
  | o => o
/-- the table tells rightly -/
def TabOk (K : PySem.W.Frag) (mg : Str → Option Value) (tab : ExT) : Prop := ∀ x c b, ((x, c), b) ∈ tab → ∀ C D : Addr, mg x = some (.ref C) → mg c = some (.ref D) → PySem.W.exmOne K (.ref C) (.ref D) = some b
def SI.hold (S : SI) (a : Addr) (cls : Value) (d : Option Addr) : SI := { S with exa := a, ecls := cls, edd := d }
section
variable {K : PySem.W.Frag} {mg : Str → Option Value} {S : SI} {w : Wd} {δ : Sv} {τ : L2.St} {a : Addr} {cls : Value} {d : Option Addr}
theorem noX_get (h : δ.all noX = true) {i : Nat} {e : D} (he : δ[i]? = some (some e)) : noX (some e) = true := List.all_eq_true.mp h _ (List.mem_of_getElem? he)
theorem relS_hold {e : D} {v : V} (hn : noX (some e) = true) (r : RelS K mg S w e v) : RelS K mg (S.hold a cls d) w e v := by
  cases e with
  | lam => exact r
  | exc c fs => cases hn
  | _ => exact r
theorem relS_unhold {e : D} {v : V} (hn : noX (some e) = true) (r : RelS K mg (S.hold a cls d) w e v) : RelS K mg S w e v := by
  cases e with
  | lam => exact r
  | exc c fs => cases hn
  | _ => exact r
theorem relSv_hold (h : RelSv K mg S w δ τ) (hn : δ.all noX = true) : RelSv K mg (S.hold a cls d) w δ τ := ⟨h.1, fun i e he => let ⟨v, e1, r⟩ := h.2 i e he; ⟨v, e1, relS_hold (noX_get hn he) r⟩⟩
theorem relSv_unhold (h : RelSv K mg (S.hold a cls d) w δ τ) (hn : δ.all noX = true) : RelSv K mg S w δ τ := ⟨h.1, fun i e he => let ⟨v, e1, r⟩ := h.2 i e he; ⟨v, e1, relS_unhold (noX_get hn he) r⟩⟩
theorem relSv_putX {x : Xn} (h : RelSv K mg S w δ τ) (hn : δ.all noX = true) (rx : RelX K mg w x cls d) (i : Nat) : RelSv K mg (S.hold a cls d) w (δ.set i (some (.exc x.cls x.fs))) (τ.set i (some (.ref a))) := by
  have h' := relSv_hold (a := a) (cls := cls) (d := d) h hn
  refine ⟨by simp [h.1], fun j e he => ?_⟩
  by_cases hj : i = j
  · subst hj
    by_cases hl : i < δ.length
    · rw [List.getElem?_set_self hl] at he
      cases he
      exact ⟨.ref a, List.getElem?_set_self (by rw [← h.1]; exact hl), rfl, rx⟩
    · rw [List.getElem?_eq_none (by simpa using hl)] at he
      cases he
  · rw [List.getElem?_set_ne hj] at he ⊢
    exact h'.2 j e he
/-- what is wanted behind a suite -/
theorem sto_unNm {D : Ends} {i : Nat} {W : WX} {o : SOut} (h : STo K mg S W D w (unNm i o)) : STo K mg (S.hold a cls d) W0 (endsAs D i) w o := by
  cases o with
  | nx δ μ =>
    simp only [unNm] at h
    split at h
    · next hn => exact fun w' τ H le rm rs => h w' _ H le rm (relSv_unhold (rs.forget i) hn)
    · exact h.elim
  | ret e μ => exact h
  | bk δ μ =>
    simp only [unNm] at h
    split at h
    · next hn => exact fun w' τ H le rm rs => h w' _ H le rm (relSv_unhold (rs.forget i) hn)
    · exact h.elim
  | ct δ μ =>
    simp only [unNm] at h
    split at h
    · next hn => exact fun w' τ H le rm rs => h w' _ H le rm (relSv_unhold (rs.forget i) hn)
    · exact h.elim
  | exc x δ μ => exact h.elim
  | stuck => exact h.elim
end
section
variable {X : Cx} {S : SI} {W : WX}
theorem ext_mem {k : Str × Str} {b : Bool} : ∀ {tab : ExT}, tab.lookup k = some b → (k, b) ∈ tab
  | [], h => by cases h
  | (k', b') :: r, h => by
    rw [List.lookup_cons] at h
    split at h
    · next e =>
      cases h
      rw [eq_of_beq e]
      exact List.mem_cons_self
    · exact List.mem_cons_of_mem _ (ext_mem h)
/-- the clauses, by data -/
inductive HdsM (X : Cx) (S : SI) : List ExceptHandler → List (Str × Nat × SM) → Prop
  | nil : HdsM X S [] []
  | cons {x n : Str} {i : Nat} {m : SM} {b₀ : Stmt} {suite : List Stmt} {np pos' : Pos} {hds : List ExceptHandler} {l : List (Str × Nat × SM)} {C : Addr} (hg : Gl X x) (hdb : (x == ("__debug__" : Str)) = false) (hm : X.mg x = some (.ref C)) (slot : X.N[i]? = some n) (own : X.env.kindOf n = some .local)
      (does : ∀ (a : Addr) (oe : Obj) (cls : Value) (d : Option Addr) (pn : List (Addr × Obj)), Zc cls d oe → (∃ vs, oe.data = .fields vs) → PSs (X.suite a ((a, oe) :: pn)) (b₀ :: suite) (tS X.K X.mg (S.hold a cls d) W0 m)) (rest : HdsM X S hds l) :
      HdsM X S (.ExceptHandler (some (.Name x np)) (some n) (b₀ :: suite) pos' :: hds) ((x, i, m) :: l)
  | cons0 {x : Str} {i : Nat} {m : SM} {b₀ : Stmt} {suite : List Stmt} {np pos' : Pos} {hds : List ExceptHandler} {l : List (Str × Nat × SM)} {C : Addr} (hg : Gl X x) (hdb : (x == ("__debug__" : Str)) = false) (hm : X.mg x = some (.ref C)) (out : X.N.length ≤ i)
      (does : ∀ (a : Addr) (oe : Obj) (cls : Value) (d : Option Addr) (pn : List (Addr × Obj)), Zc cls d oe → (∃ vs, oe.data = .fields vs) → PSs (X.suite a ((a, oe) :: pn)) (b₀ :: suite) (tS X.K X.mg (S.hold a cls d) W0 m)) (rest : HdsM X S hds l) :
      HdsM X S (.ExceptHandler (some (.Name x np)) none (b₀ :: suite) pos' :: hds) ((x, i, m) :: l)
theorem hdsM_as {tab : ExT} (ok : TabOk X.K X.mg tab) {hds : List ExceptHandler} {l : List (Str × Nat × SM)} (h : HdsM X S hds l) : ∃ ts, HdsAs X hds ts ∧ ∀ (D : Ends) (w : Wd) (x : Xn) (δ : Sv) (μ : Mem) (cls : Value) (d : Option Addr) (τ : L2.St) (H : Hp),
    RelSv X.K X.mg S w δ τ → RelM X.K X.mg S.T w μ H → RelX X.K X.mg w x cls d → STo X.K X.mg S W D w (goH tab x l δ μ) → wishAs X.K W D ts cls d τ H := by
  induction h with
  | nil => exact ⟨[], .nil, fun D w x δ μ cls d τ H rs rm rx h => h w cls d τ H (Wd.Le.refl _) rm rs rx⟩
  | @cons x n i m b₀ suite np pos' hds l C hg hdb hm slot own does rest ih =>
    obtain ⟨ts, h1, h2⟩ := ih
    refine ⟨(.ref C, i, fun a cls d => tS X.K X.mg (S.hold a cls d) W0 m) :: ts, .cons ⟨hg, hdb, .inl hm⟩ slot own does h1, fun D w y δ μ cls d τ H rs rm rx h => ?_⟩
    unfold goH at h
    obtain ⟨CC, dd, gs, g1, g2, g3, g4, g5⟩ := id rx
    subst g2
    split at h
    · next e =>
      have mem := ext_mem e
      refine ⟨true, ok _ _ _ mem CC C g1 hm, fun _ a ha => ?_, fun z => by cases z⟩
      split at h
      · next hn => exact ⟨w, _, μ, relSv_putX rs hn rx i, rm, sto_unNm h⟩
      · exact h.elim
    · next e =>
      have mem := ext_mem e
      exact ⟨false, ok _ _ _ mem CC C g1 hm, (fun z => by cases z), fun _ => h2 D w y δ μ _ d τ H rs rm rx h⟩
    · exact h.elim
  | @cons0 x i m b₀ suite np pos' hds l C hg hdb hm out does rest ih =>
    obtain ⟨ts, h1, h2⟩ := ih
    refine ⟨(.ref C, i, fun a cls d => tS X.K X.mg (S.hold a cls d) W0 m) :: ts, .cons0 ⟨hg, hdb, .inl hm⟩ out does h1, fun D w y δ μ cls d τ H rs rm rx h => ?_⟩
    unfold goH at h
    obtain ⟨CC, dd, gs, g1, g2, g3, g4, g5⟩ := id rx
    subst g2
    split at h
    · next e =>
      have mem := ext_mem e
      refine ⟨true, ok _ _ _ mem CC C g1 hm, fun _ a ha => ?_, fun z => by cases z⟩
      split at h
      · next hn => exact ⟨w, _, μ, relSv_putX rs hn rx i, rm, sto_unNm h⟩
      · exact h.elim
    · next e =>
      have mem := ext_mem e
      exact ⟨false, ok _ _ _ mem CC C g1 hm, (fun z => by cases z), fun _ => h2 D w y δ μ _ d τ H rs rm rx h⟩
    · exact h.elim
theorem ps_tryM {tab : ExT} (ok : TabOk X.K X.mg tab) {body : List Stmt} {h₀ : ExceptHandler} {hds : List ExceptHandler} {l : List (Str × Nat × SM)} {pos : Pos} {mb : SM} (hs : X.stack = X.env :: X.outer) (hf : X.env.frame = some X.env.locals) (hN : X.N.Nodup) (tk : Takes X W)
    (does : ∀ (W : WX) (pn : List (Addr × Obj)) (xe : Value → Shared → Prop), Takes (X.tr pn xe) W → PassesOwn (model X.prog X.w) X.A X.env xe → PSs (X.tr pn xe) body (tS X.K X.mg S W mb)) (hh : HdsM X S (h₀ :: hds) l) :
    PS X (.Try body (h₀ :: hds) [] [] pos) (TSm X S W (sTry tab mb l)) := by
  obtain ⟨ts, h1, h2⟩ := hdsM_as (W := W) ok hh
  refine PSi (ps_try_hds (tb := fun W => tS X.K X.mg S W mb) hs hf hN tk does h1) fun D τ H ⟨w, δ, μ, rs, rm, h⟩ => ⟨w, δ, μ, rs, rm, ?_⟩
  unfold sTry at h
  cases e : mb δ μ with
  | exc x δ1 μ1 =>
    rw [e] at h
    exact fun w' cls dd τ' H' le rm' rs' rx => h2 D w' x δ1 μ1 cls dd τ' H' rs' rm' rx (STo.mono le h)
  | nx δ1 μ1 => rw [e] at h; exact h
  | ret e1 μ1 => rw [e] at h; exact h
  | bk δ1 μ1 => rw [e] at h; exact h
  | ct δ1 μ1 => rw [e] at h; exact h
  | stuck => rw [e] at h; exact h
/-! ### in a suite: n.f, isinstance(n, C) -/
/-- n.f, n in slot i, of the class c -/
def eFld (c f : Str) (i : Nat) : EM := fun δ μ => match δ[i]? with
  | some (some (.exc c' fs)) => if c' = c then (match fs.lookup f with
      | some d => .ok d μ
      | none => .stuck) else .stuck
  | _ => .stuck
/-- isinstance(n, ..), n of the class c -/
def eIsX (c : Str) (b : Bool) (i : Nat) : EM := fun δ μ => match δ[i]? with
  | some (some (.exc c' fs)) => if c' = c then .ok (.bl b) μ else .stuck
  | _ => .stuck
theorem relFs_lookup {K : PySem.W.Frag} {mg : Str → Option Value} {w : Wd} {f : Str} : ∀ {fs : List (Str × D)} {gs : List (Str × V)} {d : D}, RelFs K mg w fs gs → fs.lookup f = some d → ∃ v, gs.lookup f = some v ∧ RelD K mg w d v
  | [], gs, d, _, h => by cases h
  | (k, e) :: fs, [], d, ⟨h1, _⟩, _ => by simp at h1
  | (k, e) :: fs, (k', v) :: gs, d, ⟨h1, h2⟩, h => by
    simp only [List.map_cons, List.cons.injEq] at h1
    obtain ⟨rfl, h1⟩ := h1
    cases h2 with
    | cons r rr =>
      rw [List.lookup_cons] at h ⊢
      split at h
      · cases h
        exact ⟨v, by simp [*], r⟩
      · have := relFs_lookup ⟨h1, rr⟩ h
        simpa [*] using this
variable {a : Addr} {oe : Obj} {cls : Value} {d : Option Addr} {pn : List (Addr × Obj)} {c f n x : Str} {i : Nat} {C D : Addr} {p p1 p2 pos : Pos} {b : Bool}
theorem pe_fld (T : XfC X.K C) (hm : X.mg c = some (.ref C)) (hno : PySem.W.findIn X.K (.ref C) f = some none) (hz : Zc cls d oe) (hd : ∃ vs, oe.data = .fields vs) (hN : X.N[i]? = some n) (hv : Vis X.env.scope n) (h1 : (n == ("__debug__" : Str)) = false := by decide) (h2 : (n == ("__classdict__" : Str)) = false := by decide)
    (hb : attributeBase (.Name n p1) f X.env (eval (.Name n p1) X.env) = eval (.Name n p1) X.env := by rfl) :
    PE (X.suite a ((a, oe) :: pn)) (.Attribute (.Name n p1) f pos) (tE X.K X.mg (S.hold a cls d) W (eFld c f i)) :=
  PEi (pe_xf T hno hz hd (pe_var (X := X.suite a ((a, oe) :: pn)) hN hv h1 h2) hb) fun τ H Q ⟨w, δ, μ, h⟩ => by
    have h3 := h.2.2
    unfold eFld at h3
    split at h3
    · next c' fs e =>
      split at h3
      · next ec =>
        subst ec
        obtain ⟨v, hv, e1, CC, dd, gs, g1, g2, g3, g4, g5⟩ := h.1.2 i _ e
        rw [hm] at g1
        cases g1
        split at h3
        · next d0 l0 =>
          obtain ⟨v0, l1, r0⟩ := relFs_lookup g5 l0
          refine ⟨v, hv, e1, g2, dd, gs, v0, g3, h.2.1.φ _ _ g4, l1, ?_⟩
          exact h3 w v0 H (Wd.Le.refl _) h.2.1 r0
        · exact h3.elim
      · exact h3.elim
    · exact h3.elim
/-- what the class C says to isinstance -/
structure IsxC (K : PySem.W.Frag) (C : Addr) : Prop where
  ga : PySem.W.findIn K (.ref C) "__getattribute__" = some (some (.builtin "BaseException.__getattribute__"))
  gg : PySem.W.findIn K (.ref C) "__getattr__" = some none
  sb : PySem.W.subIn K (.ref C) (.type "BaseException") = some true
  cl : (PySem.W.clsIn K C).isSome = true
  at_ : PySem.W.findIn K (.ref C) "__class__" = some (some (.builtin "object.__class__"))
  sp : PySem.W.specialIn K (.builtin "object.__class__") "__get__" = some (some (.builtin "getset_descriptor.__get__"))
  tk : PySem.W.takesIn K (.builtin "object.__class__") = some true
  mo : PySem.W.mroIn K C (.type "object") = some true
def rIsX (K : PySem.W.Frag) (C a : Addr) (cls : Value) (d : Option Addr) : List V → Hp → VK → Prop := fun xs H Q => ∃ (D : Addr) (b : Bool) (dd : Addr) (gs : List (Str × V)), xs = [.ref a, .ref D] ∧ cls = .ref C ∧ d = some dd ∧ H dd = some (.xd gs) ∧ PySem.W.kitOne K (.ref C) (.ref D) = some b ∧ Q (.bl b) H
theorem call_isX (T : IsxC X.K C) (hz : Zc cls d oe) (hd : ∃ vs, oe.data = .fields vs) : CallR (X.suite a ((a, oe) :: pn)) (.builtin "isinstance") (rIsX X.K C a cls d) := by
  intro pins s τ H xs us Q I r h
  obtain ⟨DD, b, dd, gs, rfl, rfl, rfl, ea, kit, q⟩ := h
  obtain ⟨u1, u2, rfl, ru1, ru2⟩ : ∃ u1 u2, us = [u1, u2] ∧ L2.RelV (.ref a) u1 ∧ L2.RelV (.ref DD) u2 := by
    cases r with
    | cons x1 r =>
      cases r with
      | cons x2 r =>
        cases r
        exact ⟨_, _, rfl, x1, x2⟩
  obtain rfl : u1 = Value.ref a := ru1
  obtain rfl : u2 = Value.ref DD := ru2
  obtain ⟨hget, _⟩ := I.pin (a, oe) (List.mem_append_left _ List.mem_cons_self)
  obtain ⟨vs, hv⟩ := hd
  obtain ⟨mA, hns, _⟩ := I.hok dd _ ea
  obtain ⟨od, ho, _⟩ := lookIn_ns hns
  have J : PySem.W.InstAt s.heap a oe C (some od) := ⟨hget, hz.1, by unfold PySem.W.notCls; rw [hv] <;> rfl, by rw [hz.2]; exact ho⟩
  exact PySem.W.kia_one (PySem.W.kitx_exc T.cl T.ga T.gg T.sb T.at_ T.sp T.tk T.mo) I.kIn J kit (fun z => nomatch z) fun tk => ⟨.bl b, H, I.kept (t' := tk) fun _ _ z => z, rfl, q⟩
theorem pe_isX (T : IsxC X.K C) (hm : X.mg c = some (.ref C)) (kit : PySem.W.kitOne X.K (.ref C) (.ref D) = some b) (hz : Zc cls d oe) (hd : ∃ vs, oe.data = .fields vs) (hN : X.N[i]? = some n) (hv : Vis X.env.scope n)
    (hgi : Gl X "isinstance") (hmi : X.mg "isinstance" = none) (hgx : Gl X x) (hmx : X.mg x = some (.ref D)) (hxd : (x == ("__debug__" : Str)) = false := by decide) (h1 : (n == ("__debug__" : Str)) = false := by decide) (h2 : (n == ("__classdict__" : Str)) = false := by decide)
    (he : starEach [.Name n p1, .Name x p2] X.env = (false, eval (.Name n p1) X.env) :: starEach [.Name x p2] X.env := by rfl) (hpl : (backTo pos (starEach [.Name x p2] X.env)).any (·.1) = false := by rfl) (he2 : starEach [.Name x p2] X.env = (false, eval (.Name x p2) X.env) :: starEach [] X.env := by rfl) :
    PE (X.suite a ((a, oe) :: pn)) (.Call (.Name "isinstance" p) [.Name n p1, .Name x p2] [] pos) (tE X.K X.mg (S.hold a cls d) W (eIsX c b i)) :=
  PEi (pe_callB (call_isX T hz hd) hgi hmi (by decide +kernel) (pa_cons (pe_var (X := X.suite a ((a, oe) :: pn)) hN hv h1 h2) (pa_cons (pe_glob (X := X.suite a ((a, oe) :: pn)) hgx hmx (v := .ref D) rfl hxd) pa_nil he2) he) (by decide) (by decide) he hpl) fun τ H Q ⟨w, δ, μ, h⟩ => by
    have h3 := h.2.2
    unfold eIsX at h3
    split at h3
    · next c' fs e =>
      split at h3
      · next ec =>
        subst ec
        obtain ⟨v, hv, e1, CC, dd, gs, g1, g2, g3, g4, g5⟩ := h.1.2 i _ e
        rw [hm] at g1
        cases g1
        refine ⟨v, hv, D, b, dd, gs, by rw [e1]; rfl, g2, g3, h.2.1.φ _ _ g4, kit, ?_⟩
        exact h3 w (.bl b) H (Wd.Le.refl _) h.2.1 (.bl b)
      · exact h3.elim
    · exact h3.elim
end
end Kw

set_option Elab.async false
set_option linter.all false
set_option maxRecDepth 100000
set_option maxHeartbeats 2000000
/-! a lambda handed to a def that calls it -/
namespace Kw
open PySem PySem.Spec PyProof.Rows L2
open LamX (Tabs TabS TabB ExtN LamS lamCx lamEnv CodeO)
abbrev AskM := Mem → Out D
/-- wishes that do not look at the slots -/
abbrev WU (E : XK) : WX := fun cls d _ H => E cls d H
/-- a(), a the def's argument -/
def eAsk (ask : AskM) : EM := fun δ μ => match δ[0]? with
  | some (some D.lam) => ask μ
  | _ => .stuck
def bodyH (N : Nat) (m : SM) : Mem → Out D := fun μ => match m (some D.lam :: List.replicate (N - 1) none) μ with
  | .ret d μ' => .ok d μ'
  | .nx _ μ' => .ok .non μ'
  | _ => .stuck
/-- x(lambda: body) -/
def eHrd (F : AskM → Mem → Out D) (body : EM) : EM := fun δ μ => match F (fun μ' => body δ μ') μ with
  | .ok d μ' => .ok d μ'
  | _ => .stuck
/-- .. the clauses see the fault alone -/
def sTryU (tab : ExT) (b : SM) (hs : List (Str × Nat × SM)) : SM := fun δ μ => match b δ μ with
  | .exc x δ1 μ1 => goH tab x hs (List.replicate δ.length none) μ1
  | o => o
section
variable {K : PySem.W.Frag} {mg : Str → Option Value} {T : List (Addr × Str)} {w w' : Wd} {μ : Mem} {H H1 : Hp}
/-- the thing at c is known for good -/
def Kn (w : Wd) (c : Addr) (o : HO) : Prop := w.φ c = some o ∨ w.fr c = some o
theorem Kn.mono {c : Addr} {o : HO} (h : Kn w c o) (le : w.Lw w') : Kn w' c o := h.imp (le.φ c o) fun h => by rw [le.fr]; exact h
theorem Kn.at {c : Addr} {o : HO} (h : Kn w c o) (r : RelM K mg T w μ H) : H c = some o := h.elim (r.φ c o) (r.fr c o)
theorem RelM.extN (r : RelM K mg T w μ H) (e : ExtN H H1) (t : Tabs T H1) : RelM K mg T w μ H1 :=
  ⟨r.n, fun a o h => e a o (r.φ a o h) fun ps z => (r.nt a ps).1 (z ▸ h), fun a o h => e a o (r.fr a o h) fun ps z => (r.nt a ps).2.1 (z ▸ h), fun a o h => e a o (r.gr a o h) fun ps z => (r.nt a ps).2.2.1 (z ▸ h), r.dj, r.dg, fun l b hl => by
    obtain ⟨q1, q2⟩ := r.ob l b hl
    refine ⟨?_, q2⟩
    by_cases ng : b = .gone
    · subst ng
      obtain ⟨o, ho⟩ := r.gn l hl
      rw [e _ o (r.φ _ _ ho) fun ps z => (r.nt _ ps).1 (z ▸ ho)]
      exact .gone
    · cases ho : H (w.ρ l) with
      | none => rw [ho] at q1; cases q1
      | some o =>
        rw [ho] at q1
        rw [e _ o ho fun ps z => by subst z; cases q1; exact ng rfl]
        exact q1, r.gn, r.inj, t, r.nt⟩
theorem RelM.adopt (r : RelM K mg T w μ H) {c : Addr} {q : Str} (hc : H c = some (CodeO c q)) : ∃ w', w.Le w' ∧ RelM K mg T w' μ H ∧ Kn w' c (CodeO c q) := by
  cases h1 : w.φ c with
  | some o =>
    have := r.φ c o h1
    rw [hc] at this
    cases this
    exact ⟨w, .refl w, r, .inl h1⟩
  | none =>
    cases h2 : w.fr c with
    | some o =>
      have := r.fr c o h2
      rw [hc] at this
      cases this
      exact ⟨w, .refl w, r, .inr h2⟩
    | none =>
      have h3 : w.gr c = none := by
        cases h3 : w.gr c with
        | none => rfl
        | some o =>
          have := r.gr c o h3
          rw [hc] at this
          cases this
          exact absurd h3 ((r.nt c #[]).2.2.2 _)
      have away : ∀ {a o}, w.φ a = some o → a ≠ c := fun {a o} z e => by rw [e, h1] at z; cases z
      have le : w.Le (w.lay c (CodeO c q)) := ⟨Nat.le_refl _, fun _ _ => rfl, fun a o z => by show upd w.φ c _ a = _; rw [upd_ne (away z)]; exact z, rfl, rfl⟩
      refine ⟨w.lay c (CodeO c q), le, ⟨r.n, fun a o z => ?_, r.fr, r.gr, fun a o z => ?_, fun a o z => ⟨?_, (r.dg a o z).2⟩, fun l b hl => ?_, fun l hl => (r.gn l hl).imp fun u hu => le.φ _ _ hu, r.inj, r.tabs, fun a ps => ⟨?_, (r.nt a ps).2⟩⟩, .inl upd_same⟩
      · have z' : upd w.φ c (CodeO c q) a = some o := z
        by_cases e : a = c
        · subst e; rw [upd_same] at z'; rw [← z']; exact hc
        · rw [upd_ne e] at z'; exact r.φ a o z'
      · have z' : w.fr a = some o := z
        show upd w.φ c _ a = none
        rw [upd_ne fun e => by rw [e, h2] at z'; cases z']
        exact r.dj a o z'
      · have z' : w.gr a = some o := z
        show upd w.φ c _ a = none
        rw [upd_ne fun e => by rw [e, h3] at z'; cases z']
        exact (r.dg a o z').1
      · obtain ⟨q1, q2⟩ := r.ob l b hl
        refine ⟨q1.mono le, fun ng => ⟨?_, (q2 ng).2⟩⟩
        show upd w.φ c _ (w.ρ l) = none
        have : w.ρ l ≠ c := fun e => by
          rw [e, hc] at q1
          have q1' : RelOb K mg w b (some (.ext _)) := q1
          cases q1'
          exact ng rfl
        rw [upd_ne this]
        exact (q2 ng).1
      · show upd w.φ c _ a ≠ _
        by_cases e : a = c
        · subst e; rw [upd_same]; intro z; have z' := Option.some.inj z; unfold CodeO at z'; cases z'
        · rw [upd_ne e]; exact (r.nt a ps).1
end
/-! ### the call of the lambda -/
section
variable {X : Cx} {pins : List (Addr × Obj)} {σ : L2.St} {H HZ : Hp} {s s1 : Shared}
/-- the frame in which the def runs that got the lambda -/
abbrev gCx (X : Cx) (Ng : List Str) (qg : Str) (sg : Scope) (g : Addr) (cdg : Value) (s : Shared) (H : Hp) : Cx := cxOf C8.CX0 X.prog X.w X.K X.mg X.base Ng qg sg g cdg X.A X.stack s H C8.E0
theorem pe_actG {Ng : List Str} {qg : Str} {sg : Scope} {g f c' : Addr} {cdg pm ctv : Value} {params : Arguments} {body : Expr} {scope : Scope} {k : Nat} {a : Str} {pn : List (Addr × Obj)} {xe : Value → Shared → Prop} {E : XK} {tb : TE} {p1 p2 : Pos}
    (I : Inv X pins σ H s) (L : LamS X.env.scope scope) (lam : s.heap.get? f = some (PySem.W.kla_obj "<lambda>" (X.env.qual ++ "<lambda>") params body scope (cloFrom X.env.cells scope.names []) pm c' ctv)) (lamH : H f = none) (lamF : f ∉ frs X.stack)
    (binds : bindArgs (PySem.W.kla_fn "<lambda>" (X.env.qual ++ "<lambda>") params body scope (cloFrom X.env.cells scope.names []) pm (.ref c') ctv) ⟨[], []⟩ = pure [])
    (tk : Takes ((gCx X Ng qg sg g cdg s H).tr pn xe) (WU E)) (hr : Room (k + 1) (X.A.deeper (envOfC qg sg s.heap.objs.size g cdg)))
    (does : ∀ (t : Shared) (G : Hp), Room k ((X.A.deeper (envOfC qg sg s.heap.objs.size g cdg)).deeper (lamEnv X scope t.heap.objs.size f c')) → PE (lamCx X (X.A.deeper (envOfC qg sg s.heap.objs.size g cdg)) (envOfC qg sg s.heap.objs.size g cdg :: X.stack) t G E scope f c') body tb)
    (at0 : Ng[0]? = some a) (vis : Vis sg a) (hd : (a == ("__debug__" : Str)) = false) (hcd : (a == ("__classdict__" : Str)) = false) :
    PE ((gCx X Ng qg sg g cdg s H).tr pn xe) (.Call (.Name a p1) [] [] p2) (fun τ G Q => τ[0]? = some (some (.ref f)) ∧ G c' = some (CodeO c' (X.env.qual ++ "<lambda>")) ∧ tb σ G Q) := by
  refine ⟨fun pz sz τ G Q J ⟨h0, hc, ht⟩ => ?_⟩
  refine wpAny_Call_Name_kw (thn ((pe_var (pos := p1) (i := 0) at0 vis hd hcd).run pz sz τ G (fun v G1 => v = .ref f ∧ G1 = G) J ⟨.ref f, h0, rfl, rfl⟩) fun u t ⟨v, G1, J1, ru, ev, eG⟩ => ?_)
  subst ev eG
  obtain rfl : u = Value.ref f := ru
  have stays := J1.base.keep f _ lam lamH lamF (fun z => nomatch (show f ∈ ([] : List Addr) from z))
  refine PySem.W.callWith_F0 ⟨_, _, _, _, stays⟩ ?_
  obtain ⟨⟨oc, vs, tok, hoc, hdc, hvc⟩, _, _⟩ := J1.hok c' _ hc
  have run : codeAny (model X.prog X.w) (X.A.deeper (envOfC qg sg s.heap.objs.size g cdg)) (.call (.ref f) ⟨[], []⟩) (CR (L2.CX X.prog X.w) (envOfC qg sg s.heap.objs.size g cdg :: X.stack) X.prog X.w G1 t Q E) t := by
    refine PySem.W.kla_callFunE hr.depth stays rfl L.co L.gen rfl ⟨c', oc, vs, tok, rfl, hoc, hdc, hvc⟩ ?_
    rw [binds]
    refine wpAny_pure (wpAny_newFunctionEnv (fun y hy => (L.own y hy).2) (fun y hy => absurd hy (by simp)) (fun h1 ns1 sb1 => ⟨J1.nolimit.fresh _ sb1, ?_⟩) L.kind)
    have kp : ∀ b o, t.heap.get? b = some o → h1.get? b = some o := fun b o z => sb1.extBut b o (Nat.ne_of_lt (Heap.lt_size z)) (Heap.get?_push_of_some _ z)
    have begun : Inv (lamCx X (X.A.deeper (envOfC qg sg s.heap.objs.size g cdg)) (envOfC qg sg s.heap.objs.size g cdg :: X.stack) t G1 E scope f c') [] σ G1 { t with heap := h1, toks := t.toks + ([] : List (Str × Value)).length } :=
      LamX.lam_start2 I L J1.env0 hr.hd J1.base ns1 kp
    show codeAny (model X.prog X.w) _ (.expr body (lamEnv X scope t.heap.objs.size f c')) _ _
    refine PySem.W.kla_codeExpr (wpAny_mono ((does t G1 (hr.deeper _)).run [] _ _ G1 Q begun ht) (fun v t' ⟨v', G', J', rv, q⟩ => ?_) fun _ _ z => z)
    exact ⟨v', G', J'.os, J'.bare, J'.base, J'.hok, rv, q⟩
  have lets := passes_call (E := E) tk fun _ _ _ _ z => z
  refine wpAny_call (codeAny_mono run fun r t' z => ?_)
  cases r with
  | error er => exact lets pz τ G1 t er t' J1 z
  | ok fl =>
    cases fl with
    | ret u => exact J1.after z
    | next => exact z.elim
    | brk => exact z.elim
    | cont => exact z.elim
end
/-- the def x, which calls its argument a, does what F says -/
structure HrdD (P : Program) (w : World) (K : PySem.W.Frag) (mg : Str → Option Value) (base : Heap) (T : List (Addr × Str)) (x : Str) (st : Stmt) (a : Str) (F : AskM → Mem → Out D) : Prop where
  ex : ∃ (g : Addr) (fd : FuncData) (N : List Str) (m : AskM → SM), FnP K x st g fd ∧ mg x = some (.ref g) ∧ FnScope N [a] (defScope st) ∧ N[0]? = some a ∧ Vis (defScope st) a ∧ L2.Binds K fd [a] [] ∧ (∀ ask, F ask = bodyH N.length (m ask)) ∧
    ∀ (ask : AskM) (A : Around) (outer : List Env) (s : Shared) (H : Hp) (cd : Value) (lam : V) (w0 : Wd), Room 1 (A.deeper (envOfC x (defScope st) s.heap.objs.size g cd)) → A.guards = some [] →
      (∀ (E : XK) (pn : List (Addr × Obj)) (xe : Value → Shared → Prop) (p1 p2 : Pos), Takes ((cxOf C8.CX0 P w K mg base N x (defScope st) g cd A outer s H C8.E0).tr pn xe) (WU E) →
        PE ((cxOf C8.CX0 P w K mg base N x (defScope st) g cd A outer s H C8.E0).tr pn xe) (.Call (.Name a p1) [] [] p2) (tE K mg { T := T, lam := lam, w0 := w0 } (WU E) (eAsk ask))) →
      PSs (cxOf C8.CX0 P w K mg base N x (defScope st) g cd A outer s H C8.E0).nox (defBody st) (tS K mg { T := T, lam := lam, w0 := w0 } W0 (m ask))
section
variable {X : Cx} {S : SI} {W : WX} {x a : Str} {st : Stmt} {F : AskM → Mem → Out D} {mb : EM} {k : Nat} {c P : Addr} {params : Arguments} {body : Expr} {scope : Scope} {p lpos pos : Pos}
theorem pe_hrd (C : HrdD X.prog X.w X.K X.mg X.base S.T x st a F) (hg : Gl X x) (TB : TabB X.base X.mg c P) (hcode : X.env.code = .ref c) (hmT : (P, X.env.qual ++ "<lambda>") ∈ S.T) (hu : ∀ q ∈ S.T, q.1 = P → q.2 = X.env.qual ++ "<lambda>") (hr : Room (k + 2) X.A) (hgd : X.A.guards = some [])
    (L : LamS X.env.scope scope) (hdef : defaultsOf params X.env = ([], [])) (hbind : ∀ (q : Str) (cl : List (Str × Addr)) (pm cv ctv : Value), bindArgs (PySem.W.kla_fn "<lambda>" q params body scope cl pm cv ctv) ⟨[], []⟩ = pure [])
    (does : ∀ (A : Around) (outer : List Env) (t : Shared) (G : Hp) (E : XK) (f c' : Addr), Room k (A.deeper (lamEnv X scope t.heap.objs.size f c')) → A.guards = some [] → Takes (lamCx X A outer t G E scope f c') (WU E) → PE (lamCx X A outer t G E scope f c') body (tE X.K X.mg S (WU E) mb))
    (hdb : (x == ("__debug__" : Str)) = false := by decide) (hd : (a == ("__debug__" : Str)) = false := by decide) (hcd : (a == ("__classdict__" : Str)) = false := by decide) :
    PE X (.Call (.Name x p) [.Lambda params body scope lpos] [] pos) (TEm X S W (eHrd F mb)) := by
  refine ⟨fun pins s σ H Q I ⟨w, δ, μ, rs, rm, h⟩ => ?_⟩
  obtain ⟨g, fd, N, m, FP, hm, Sg, at0, vis, hb, hF, gives⟩ := C.ex
  obtain ⟨oc, od, dV, kV, doc, pm, an, cdv, ct, osl, rfl, lk, hcg, _, _⟩ := FP.ex
  refine wpAny_Call_Name_kw (ld_glob I hg hm ?_ hdb)
  refine PySem.W.callWith_K (h₀ := X.base) I.ok.mod.kin FP.kp ?_ (by rfl) (by rfl)
  show wpAny _ _ (spliced ((false, eval (.Lambda params body scope lpos) X.env) :: backTo pos (starEach [] X.env))) _ _ s
  refine Calls.spliced_cons (LamX.lam_make2 I TB hcode hmT hu rm.tabs hdef (L.has I.ok) fun f c' pm' ctv H1 s' J eN T1 lam lamH lamF code => ?_)
  refine Calls.spliced_nil ⟨J.kIn, ?_⟩
  obtain ⟨w1, le1, rm1, kn⟩ := (rm.extN eN T1).adopt code
  have rs1 := rs.mono le1
  unfold eHrd at h
  rw [hF] at h
  unfold bodyH at h
  have run : codeAny (model X.prog X.w) X.A (.call (.ref g) ⟨[.ref f], []⟩) (CR C8.CX0 X.stack X.prog X.w H1 s' Q C8.E0) s' := by
    refine LamX.run_ofS (N := N) (ps := [a]) (us := [.ref f]) (vs := [.ref f]) lk hcg Sg hr J.env0 (hb s' [.ref f] J.kIn rfl) (.cons rfl .nil) rfl fun hr' => ?_
    have body_ := gives (fun μ' => mb δ μ') X.A X.stack s' H1 cdv (.ref f) w1 (hr'.mono (by omega)) hgd fun E pn xe p1 p2 tk => by
      refine PEi (pe_actG (k := k) J L lam lamH lamF (hbind _ _ _ _ _) tk hr' (fun t G hr2 => does _ _ t G E f c' hr2 hgd (takes_of rfl rfl rfl rfl)) at0 vis hd hcd) fun τ G Q' ⟨wz, δz, μz, z1, z2, z3⟩ => ?_
      unfold eAsk at z3
      split at z3
      · next e =>
        obtain ⟨v, hv, ev, lw⟩ := z1.2 0 _ e
        refine ⟨by rw [hv, ev], (kn.mono lw).at z2, wz, δ, μz, rs1.monoW lw, z2, z3⟩
      · exact z3.elim
    refine ⟨_, body_.nox, w1, some D.lam :: List.replicate (N.length - 1) none, μ, ?_, rm1, ?_⟩
    · have hl : 1 ≤ N.length := by cases N with
        | nil => simp at at0
        | cons _ _ => simp
      refine ⟨by simp [L2.start], fun i d e => ?_⟩
      cases i with
      | zero =>
        simp at e
        subst e
        exact ⟨.ref f, by simp [L2.start], rfl, ⟨Nat.le_refl _, fun _ _ => rfl, fun _ _ z => z, rfl⟩⟩
      | succ i =>
        simp [List.getElem?_replicate] at e
    · generalize m (fun μ' => mb δ μ') (some D.lam :: List.replicate (N.length - 1) none) μ = o at h
      cases o with
      | ret d μ' => exact fun w' v G le r rd => h w' v G (le1.trans le) r rd
      | nx δ' μ' => exact fun w' τ G le r _ => h w' .non G (le1.trans le) r .non
      | exc x δ' μ' => exact h.elim
      | bk δ' μ' => exact h.elim
      | ct δ' μ' => exact h.elim
      | stuck => exact h.elim
  refine wpAny_call (codeAny_mono run fun r s2 z => ?_)
  cases r with
  | error e => exact (show False from z).elim
  | ok fl =>
    cases fl with
    | ret u => exact J.after z
    | next => exact z.elim
    | brk => exact z.elim
    | cont => exact z.elim
/-! ### the try in such a def -/
theorem ps_tryU {tab : ExT} (ok : TabOk X.K X.mg tab) {body : List Stmt} {h₀ : ExceptHandler} {hds : List ExceptHandler} {l : List (Str × Nat × SM)} {pos : Pos} {mb : SM} (hs : X.stack = X.env :: X.outer) (hf : X.env.frame = some X.env.locals) (hN : X.N.Nodup) (tk : Takes X W)
    (does : ∀ (E : XK) (pn : List (Addr × Obj)) (xe : Value → Shared → Prop), Takes (X.tr pn xe) (WU E) → PassesOwn (model X.prog X.w) X.A X.env xe → PSs (X.tr pn xe) body (tS X.K X.mg S (WU E) mb)) (hh : HdsM X S (h₀ :: hds) l) :
    PS X (.Try body (h₀ :: hds) [] [] pos) (TSm X S W (sTryU tab mb l)) := by
  obtain ⟨ts, h1, h2⟩ := hdsM_as (W := W) ok hh
  have th := ps_try_hds (pos := pos) (tb := fun V D τ G => ∃ E : XK, (∀ cls d τ' G', τ'.length = X.N.length → E cls d G' → V cls d τ' G') ∧ tS X.K X.mg S (WU E) mb D τ G) hs hf hN tk (fun V pn xe tk' po => ⟨fun pins s τ G D I ⟨E, hE, h⟩ =>
    (does E pn xe (fun u s' ⟨a, B, sI, pins', τ', G', cls, d, e, J, nb, up, sky, na, os, ag, z⟩ => tk' u s' ⟨a, B, sI, pins', τ', G', cls, d, e, J, nb, up, sky, na, os, ag, hE cls d τ' G' J.len z⟩) po).run pins s τ G D I h⟩) h1
  refine ⟨fun pins s τ G D I ⟨w, δ, μ, rs, rm, h⟩ => th.run pins s τ G D I ?_⟩
  have hl : δ.length = X.N.length := rs.1.trans I.len
  refine ⟨fun cls d G' => ∃ w' x μ1, RelM X.K X.mg S.T w' μ1 G' ∧ RelX X.K X.mg w' x cls d ∧ STo X.K X.mg S W D w' (goH tab x l (List.replicate X.N.length none) μ1), fun cls d τ' G' e ⟨w', x, μ1, r1, r2, r3⟩ => ?_, w, δ, μ, rs, rm, ?_⟩
  · refine h2 D w' x _ μ1 cls d τ' G' ⟨by simp [e], fun i d he => ?_⟩ r1 r2 r3
    simp [List.getElem?_replicate] at he
  · unfold sTryU at h
    cases e : mb δ μ with
    | exc x δ1 μ1 =>
      rw [e, hl] at h
      exact fun w' cls dd τ' G' le r rs' rx => ⟨w', x, μ1, r, rx, STo.mono le h⟩
    | nx δ1 μ1 => rw [e] at h; exact h
    | ret e1 μ1 => rw [e] at h; exact h
    | bk δ1 μ1 => rw [e] at h; exact h
    | ct δ1 μ1 => rw [e] at h; exact h
    | stuck => rw [e] at h; exact h
end
end Kw

set_option Elab.async false
set_option linter.all false
set_option maxRecDepth 100000
set_option maxHeartbeats 2000000
/-! what the top of a law's text left: own errors, a def's code object and its table -/
namespace Kw
open PySem PySem.Spec PyProof.Rows L2
/-! ### own errors -/
/-- parameters and body of an own __init__ of one field -/
def iniB (fld txt : Str) (ps : Arguments) (b : FuncBody) : Bool := match ps with
  | ⟨[], [⟨a1, none, _⟩, ⟨a2, none, _⟩], none, [], [], none, []⟩ => (match b with
    | .stmts [.Expr (.Call (.Attribute (.Call (.Name n1 _) [] [] _) n2 q3) [.Constant (.str t) _ _] [] q5) _, .Assign [.Attribute (.Name n3 _) n4 _] (.Name n5 _) _] =>
      decide (a1 = "self") && (decide (a2 = fld) && (decide (n1 = "super") && (decide (n2 = "__init__") && (decide (t = txt) && (decide (n3 = "self") && (decide (n4 = fld) && (decide (n5 = fld) && (q3.endLine == q5.line))))))))
    | _ => false)
  | _ => false
theorem iniB_ok {fld txt : Str} {ps : Arguments} {b : FuncBody} (h : iniB fld txt ps b = true) : ∃ (j : Nat) (p1 p2 q1 q2 q3 q4 q5 q6 q7 q8 q9 q10 : Pos), ps = PySem.KwX.iA fld p1 p2 ∧ b = .stmts (PySem.KwX.iB fld txt j q1 q2 q3 q4 q5 q6 q7 q8 q9 q10) ∧ (q3.endLine == q5.line) = true := by
  unfold iniB at h
  split at h
  · split at h
    · simp only [Bool.and_eq_true, decide_eq_true_eq] at h
      obtain ⟨h1, h2, h3, h4, h5, h6, h7, h8, h9⟩ := h
      subst h1 h2 h3 h4 h5 h6 h8
      exact ⟨_, _, _, _, _, _, _, _, _, _, _, _, _, rfl, by rw [h7]; rfl, h9⟩
    · cases h
  · cases h
def clsB (K : PySem.W.Frag) (C : Addr) : Bool := match K.lookup C with
  | some ⟨.type t, _, .cls cd, sl⟩ => decide (t = "type") && (match cd.mro, sl.toList with
    | .ref C' :: bm, [_, _, _, _, some (.builtin n), _] => decide (C' = C) && (decide (n = "ValueError.__new__") && (!cd.hasDel && (cd.hasDict && PySem.HandSPX.refsVE bm)))
    | _, _ => false)
  | _ => false
theorem clsB_ok {K : PySem.W.Frag} {C : Addr} (h : clsB K C = true) : ∃ nm q N bs bm sn sub ab col dd k0 k1 k2 k3 k5, K.lookup C = some (excClassObj nm q C N bs bm true sn sub ab col dd k0 k1 k2 k3 k5 "ValueError.__new__") ∧ PySem.HandSPX.refsVE bm = true := by
  unfold clsB at h
  split at h
  · next t dd cd sl e =>
    rw [Bool.and_eq_true, decide_eq_true_eq] at h
    obtain ⟨rfl, h⟩ := h
    split at h
    · next C' bm k0 k1 k2 k3 n k5 hm hs =>
      simp only [Bool.and_eq_true, decide_eq_true_eq, Bool.not_eq_true'] at h
      obtain ⟨rfl, rfl, h1, h2, h3⟩ := h
      obtain ⟨nm, bs, mro, ns, qn, hd, sn, sub, ab, col, del⟩ := cd
      simp only at hm h1 h2
      subst hm h1 h2
      have : sl = #[k0, k1, k2, k3, some (.builtin "ValueError.__new__"), k5] := by
        obtain ⟨l⟩ := sl
        simp only at hs
        rw [hs]
      subst this
      exact ⟨nm, qn, ns, bs, bm, sn, sub, ab, col, dd, k0, k1, k2, k3, k5, e, h3⟩
    · cases h
  · cases h
/-- the __init__ at fI, of the class at C -/
def funB (K : PySem.W.Frag) (file fld txt : Str) (C fI : Addr) : Bool := match K.lookup fI with
  | some ⟨_, _, .func fd, _⟩ => decide (fd.name = "__init__") && (iniB fld txt fd.params fd.body && (decide (fd.scope = PySem.KwX.iS fld) && (decide (fd.globals = mainGlobals) && (decide (fd.builtins = builtinsNs) && (decide (fd.defaults = .none) && (PySem.W.codeIn K fd.code fd.qualname &&
      ((match fd.code with
        | .ref cda => (match K.lookup cda with
          | some ⟨_, _, .fields vs, _⟩ => (match (vs[2]? : Option Value) with
            | some (Value.str f _) => decide (f = file)
            | _ => false)
          | _ => false)
        | _ => false) &&
      (match fd.closure with
        | [(n, cc)] => decide (n = "__class__") && (match K.lookup cc with
          | some ⟨_, _, .cell (some (.ref D)), _⟩ => decide (D = C)
          | _ => false)
        | _ => false))))))))
  | _ => false
theorem funB_ok {K : PySem.W.Frag} {file fld txt : Str} {C fI : Addr} (h : funB K file fld txt C fI = true) : ∃ (oc : Value) (od : Option Addr) (kV doc pm : Value) (an : Option Addr) (ct ccl : Value) (cdd : Option Addr) (vs : Array Value) (ccs : Array (Option Value)) (osl csl : Array (Option Value)) (cl : Value) (cld : Option Addr) (tf : Tok) (qual : Str) (cda cc : Addr) (j : Nat) (p1 p2 q1 q2 q3 q4 q5 q6 q7 q8 q9 q10 : Pos),
    K.lookup fI = some ⟨oc, od, .func (PySem.W.ksFn "__init__" qual (PySem.KwX.iA fld p1 p2) (PySem.KwX.iB fld txt j q1 q2 q3 q4 q5 q6 q7 q8 q9 q10) (PySem.KwX.iS fld) .none kV doc pm an (.ref cda) ct cc), osl⟩ ∧ PySem.W.codeIn K (.ref cda) qual = true ∧
    K.lookup cda = some ⟨ccl, cdd, .fields vs, ccs⟩ ∧ vs[2]? = some (.str file tf) ∧ K.lookup cc = some ⟨cl, cld, .cell (some (.ref C)), csl⟩ ∧ (q3.endLine == q5.line) = true := by
  unfold funB at h
  split at h
  · next oc od fd osl e =>
    obtain ⟨n1, n2, n3, n4, n5, n6, n7, n8, n9, n10, n11, n12, n13, n14, n15⟩ := fd
    simp only [Bool.and_eq_true, decide_eq_true_eq] at h
    obtain ⟨h1, h2, h3, h4, h5, h6, h7, h8, h9⟩ := h
    obtain ⟨j, p1, p2, q1, q2, q3, q4, q5, q6, q7, q8, q9, q10, i1, i2, i3⟩ := iniB_ok h2
    subst h1 h3 h4 h5 h6 i1 i2
    split at h8
    · next cda =>
      split at h8
      · next ccl cdd vs ccs e2 =>
        split at h8
        · next f tf e3 =>
          have e4 := of_decide_eq_true h8
          subst e4
          split at h9
          · next n cc =>
            rw [Bool.and_eq_true, decide_eq_true_eq] at h9
            obtain ⟨rfl, h9⟩ := h9
            split at h9
            · next cl cld DD csl e5 =>
              have e6 := of_decide_eq_true h9
              subst e6
              exact ⟨oc, od, n9, n10, n11, n12, n14, ccl, cdd, vs, ccs, osl, csl, cl, cld, tf, n2, cda, cc, j, p1, p2, q1, q2, q3, q4, q5, q6, q7, q8, q9, q10, e, h7, e2, e3, e5, i3⟩
            · cases h9
          · cases h9
        · cases h8
      · cases h8
    · cases h8
  · cases h
def eqV (a b : Option (Option Value)) : Bool := decide (a = b)
/-- all that an own error of one field must say -/
def supB (K : PySem.W.Frag) (file cn fld txt : Str) : Bool :=
  clsB K (He.ga K cn) && (funB K file fld txt (He.ga K cn) (He.ma K (He.ga K cn) "__init__") &&
  (eqV (PySem.W.findIn K (.ref (He.ga K cn)) "__setattr__") (some (some (.builtin "object.__setattr__"))) &&
  (eqV (PySem.W.findIn K (.ref (He.ga K cn)) "__getattribute__") (some (some (.builtin "BaseException.__getattribute__"))) &&
  (eqV (PySem.W.findIn K (.ref (He.ga K cn)) "__getattr__") (some none) &&
  (eqV (PySem.W.findIn K (.ref (He.ga K cn)) fld) (some none) &&
  (eqV (PySem.W.findIn K (.ref (He.ga K cn)) "__init__") (some (some (.ref (He.ma K (He.ga K cn) "__init__")))) &&
  (decide (PySem.W.typeIn K (.ref (He.ma K (He.ga K cn) "__init__")) = some (.type "function")) &&
  (PySem.W.keepIn K (.ref (He.ga K cn)) &&
  (decide (PySem.W.subIn K (.ref (He.ga K cn)) (.type "BaseException") = some true) &&
  (decide (PySem.W.subIn K (.ref (He.ga K cn)) (.type "ValueError") = some true) &&
  (decide (PySem.W.typeIn K (.ref (He.ga K cn)) = some (.type "type")) &&
  (PySem.W.hasDictIn K (He.ga K cn) &&
  (eqV (PySem.W.ks_superIn K (He.ga K cn) (He.ga K cn) "__init__") (some (some (.builtin "ValueError.__init__"))) &&
  (decide (PySem.W.mroIn K (He.ga K cn) (.ref (He.ga K cn)) = some true) &&
  (eqV (PySem.W.nsIn K cStatics "thirdparty.any") (some none) &&
  ((PySem.W.clsIn K (He.ga K cn)).isSome &&
  (eqV (PySem.W.findIn K (.ref (He.ga K cn)) "__class__") (some (some (.builtin "object.__class__"))) &&
  (eqV (PySem.W.specialIn K (.builtin "object.__class__") "__get__") (some (some (.builtin "getset_descriptor.__get__"))) &&
  (decide (PySem.W.takesIn K (.builtin "object.__class__") = some true) &&
  decide (PySem.W.mroIn K (He.ga K cn) (.type "object") = some true))))))))))))))))))))
/-- an own error class of one field -/
structure ErrD (P : Program) (K : PySem.W.Frag) (mg : Str → Option Value) (cn fld txt : Str) (C fI : Addr) : Prop where
  sup : PySem.KwX.SupTxt P K mg cn fld txt C fI
  fld_ : XfC K C
  isx : IsxC K C
theorem supB_ok {P : Program} {K : PySem.W.Frag} {mg : Str → Option Value} {file cn fld txt : Str} (h : supB K file cn fld txt = true) (gC : mg cn = some (.ref (He.ga K cn))) (free : mg "super" = none) (hf : P.main.file = file)
    (top : (P.main.scope.names.lookup ("super" : Str)).isSome = false) (size : txt.length ≤ sizeLine)
    (ne1 : ¬ fld = "self") (binds : ∀ (qual : Str) (kV doc pm : Value) (an : Option Addr) (cdv ct : Value) (cc : Addr) (j : Nat) (p1 p2 q1 q2 q3 q4 q5 q6 q7 q8 q9 q10 : Pos) (a v : Value), bindArgs (PySem.W.ksFn "__init__" qual (PySem.KwX.iA fld p1 p2) (PySem.KwX.iB fld txt j q1 q2 q3 q4 q5 q6 q7 q8 q9 q10) (PySem.KwX.iS fld) .none kV doc pm an cdv ct cc) ⟨[a, v], []⟩ = pure ([(PySem.Str.ofString "self", a), (fld, v)] : List (Str × Value)))
    (kin : (PySem.KwX.iS fld).names.lookup fld = some .local) (kSup : (PySem.KwX.iS fld).names.lookup ("super" : Str) = some .globalImplicit) (kCls : (PySem.KwX.iS fld).names.lookup ("__class__" : Str) = some .free) (ne2 : (fld == ("__debug__" : Str)) = false) :
    ErrD P K mg cn fld txt (He.ga K cn) (He.ma K (He.ga K cn) "__init__") := by
  unfold supB eqV at h
  simp only [Bool.and_eq_true, decide_eq_true_eq] at h
  obtain ⟨h1, h2, h3, h4, h5, h6, h7, h8, h9, h10, h11, h12, h13, h14, h15, h16, h17, h18, h19, h20, h21⟩ := h
  obtain ⟨oc, od, kV, doc, pm, an, ct, ccl, cdd, vs, ccs, osl, csl, cl, cld, tf, qual, cda, cc, j, p1, p2, q1, q2, q3, q4, q5, q6, q7, q8, q9, q10, f1, f2, f3, f4, f5, f6⟩ := funB_ok h2
  refine ⟨⟨gC, clsB_ok h1, h3, h4, h5, h6, h7, h8, h9, h10, h11, h12, h13, ne1, binds, kin, kSup, kCls, size, ne2, h14, h15, h16, free, top, ?_⟩, ⟨h4, h5, h10, h13⟩, ⟨h4, h5, h10, h17, h18, h19, h20, h21⟩⟩
  exact ⟨oc, od, kV, doc, pm, an, ct, ccl, cdd, vs, ccs, osl, csl, cl, cld, file, tf, qual, cda, cc, j, p1, p2, q1, q2, q3, q4, q5, q6, q7, q8, q9, q10, f1, f2, f3, f4, by rw [hf]; simp, f5, f6⟩
/-! ### classes against classes -/
def exmB (K : PySem.W.Frag) (tab : ExT) : Bool := tab.all fun q => decide (PySem.W.exmOne K (.ref (He.ga K q.1.1)) (.ref (He.ga K q.1.2)) = some q.2)
theorem exmB_ok {K : PySem.W.Frag} {mg : Str → Option Value} {tab : ExT} (h : exmB K tab = true) (g : ∀ q ∈ tab, mg q.1.1 = some (.ref (He.ga K q.1.1)) ∧ mg q.1.2 = some (.ref (He.ga K q.1.2))) : TabOk K mg tab := fun x c b hm C D hC hD => by
  have q := of_decide_eq_true (List.all_eq_true.mp h _ hm)
  obtain ⟨g1, g2⟩ := g _ hm
  simp only at q g1 g2
  rw [g1] at hC
  rw [g2] at hD
  cases hC
  cases hD
  exact q
def kitB2 (K : PySem.W.Frag) (x c : Str) (b : Bool) : Bool := decide (PySem.W.kitOne K (.ref (He.ga K x)) (.ref (He.ga K c)) = some b)
/-- isinstance of an x's instance, asked about c -/
def KitD (K : PySem.W.Frag) (mg : Str → Option Value) (x c : Str) (b : Bool) : Prop := ∃ C D : Addr, mg x = some (.ref C) ∧ mg c = some (.ref D) ∧ PySem.W.kitOne K (.ref C) (.ref D) = some b
theorem kitB2_ok {K : PySem.W.Frag} {mg : Str → Option Value} {x c : Str} {b : Bool} (h : kitB2 K x c b = true) (g1 : mg x = some (.ref (He.ga K x))) (g2 : mg c = some (.ref (He.ga K c))) : KitD K mg x c b := ⟨_, _, g1, g2, of_decide_eq_true h⟩
/-! ### what is told of the head: the statics too -/
def asS (g : Addr → Option Obj) (n : Nat) : List Addr := cStatics :: He.asD g n
def obsS (n : Nat) (fa : List He.Fa) (fn : List He.DefD) (tf : List He.Defn) (ex : PySem.W.Frag → Bool) (g : Addr → Option Obj) : He.AlX := (He.obsT fa fn [] (He.frT g (asS g n)), ex (He.frT g (asS g n)) && He.tabsB g tf (He.frT g (asS g n)))
theorem saysS {fa : List He.Fa} {fn : List He.DefD} {tf : List He.Defn} {ex : PySem.W.Frag → Bool} {w : World} {h : Heap} {as : List Addr} (e1 : He.obsT fa fn [] (He.frT h.get? as) = He.valT fn [] w) (e2 : (ex (He.frT h.get? as) && He.tabsB h.get? tf (He.frT h.get? as)) = true) : He.SaysX fa fn [] tf ex w h (He.frT h.get? as) := by
  rw [Bool.and_eq_true] at e2
  have each : ∀ p ∈ tf, PySem.W.codeHdIn (He.frT h.get? as) (He.cT (He.frT h.get? as) p).1 (He.cT (He.frT h.get? as) p).2 = true ∧ ∃ o, h.get? (He.cT (He.frT h.get? as) p).2 = some o ∧ He.emptyTab o = true := fun p hp => by
    have q := List.all_eq_true.mp e2.2 p hp
    rw [Bool.and_eq_true] at q
    refine ⟨q.1, ?_⟩
    have q2 := q.2
    split at q2
    · next o e => exact ⟨o, e, q2⟩
    · cases q2
  refine ⟨e1, e2.1, fun p hp => (each p hp).1, fun p hp => ?_, fun p hp => ?_⟩
  · obtain ⟨_, o, e, z⟩ := each p hp
    exact He.frT_none e z
  · obtain ⟨_, o, e, z⟩ := each p hp
    rw [e, He.emptyTab_eq z]
def hookS (n : Nat) (fa : List He.Fa) (fn : List He.DefD) (tf : List He.Defn) (ex : PySem.W.Frag → Bool) : PySem.W.Hook where
  α := He.AlX
  obs := fun s => obsS n fa fn tf ex s.heap.get?
  val := fun w => He.valX fn [] w
  says := fun w h => ∃ K : PySem.W.Frag, K.In h ∧ He.SaysX fa fn [] tf ex w h K
  of := fun w s e => ⟨_, He.frT_in, saysS (congrArg (fun z : He.AlX => z.1) e) (congrArg (fun z : He.AlX => z.2) e)⟩
  keeps := fun w h h' ⟨K, hK, c⟩ k => ⟨K, PySem.W.Frag.In.keeps hK k, ⟨c.t, c.more, c.hd, c.out, fun p hp => k _ _ (c.empty p hp)⟩⟩
theorem obsS_eq {n : Nat} {fa : List He.Fa} {fn : List He.DefD} {tf : List He.Defn} {ex : PySem.W.Frag → Bool} {g : Addr → Option Obj} {s : Shared} (h : ∀ a, g a = s.heap.get? a) : obsS n fa fn tf ex g = (hookS n fa fn tf ex).obs s := by
  have e : g = s.heap.get? := funext h
  rw [e] <;> rfl
/-! ### a def in which lambdas are made -/
section
variable {P : Program} {w : World} {K : PySem.W.Frag} {mg : Str → Option Value} {base : Heap} {x qual : Str} {params : Arguments} {body : List Stmt} {scope : Scope} {dvs : List V} {kws : List (Str × V)} {f : Addr} {fd : FuncData}
theorem fnG_ofC {T : List (Addr × Str)} {N ps : List Str} {k n : Nat} {m : SM} {c : Addr} (F : FunD K x qual params body scope dvs kws f fd) (hc : fd.code = .ref c) (S : FnScope N ps scope) (hn : ps.length = n)
    (hbody : ∀ (A : Around) (outer : List Env) (s : Shared) (H : Hp) (E : XK), Room k (A.deeper (envOfC qual scope s.heap.objs.size f (.ref c))) → (A.deeper (envOfC qual scope s.heap.objs.size f (.ref c))).guards = some [] → Takes (cxOf (L2.CX P w) P w K mg base N qual scope f (.ref c) A outer s H E) (fun c d _ H => E c d H) →
      PSs (cxOf (L2.CX P w) P w K mg base N qual scope f (.ref c) A outer s H E) body (tS K mg { T := T } (fun c d _ H => E c d H) m)) : FnG P w K mg base (k + 1) f fd ps (spM K mg T n (bodyM N.length m)) := by
  obtain ⟨oc, od, dV, kV, doc, pm, an, cdv, ct, osl, rfl, lk, hcd, _, _⟩ := F.ex
  have e : cdv = .ref c := hc
  subst e
  have len : ∀ vs H Q E, spM K mg T n (bodyM N.length m) vs H Q E → vs.length = ps.length := fun vs H Q E h => h.1.trans hn.symm
  refine ⟨len, fun A outer s H args us vs Q E hr hgd e0 hb r hsp => ?_⟩
  have hl := len _ _ _ _ hsp
  have KX : K.In s.heap := e0.mod.kin.keeps fun b o e => (e0.bs b o e).1
  have lim : s.heap.NoLimit := e0.mod.nolimit.keeps fun b o e => (e0.bs b o e).1
  have kinds : ∀ y ∈ ps.zip us, scope.names.lookup y.1 = some .local ∨ (scope.names.lookup y.1 = some .cell ∧ ((cellsFrom (s.heap.objs.size + 1) scope.names []).lookup y.1).isSome = true) := fun ⟨n, v⟩ hy =>
    (S.par n (List.of_mem_zip hy).1).imp id fun q => ⟨q, PySem.W.cellsFrom_some _ _ _ (.inl q)⟩
  refine codeAny_call_function hr.depth (KX _ _ lk) rfl S.co S.gen rfl (PySem.W.codeRec_of KX hcd) (hb _ _ _ _ ?_)
  refine wpAny_newFunctionEnv_cells S.kind kinds fun env he s1 x => ?_
  subst he
  refine ⟨lim.keeps x.toInCall.keep, codeAny_func ?_⟩
  have ht := hbody A outer s H E (hr.deeper _) hgd (takes_of rfl rfl rfl rfl)
  have I : Inv (cxOf (L2.CX P w) P w K mg base N qual scope f (.ref c) A outer s H E) [] (L2.start N vs) H s1 := inv_start S hr.hd e0 hl r x
  obtain ⟨_, wd, μ, ds, rm, rs, hm⟩ := hsp
  have hq : tS K mg { T := T } (fun c d _ H => E c d H) m { nx := fun _ H' => Q .non H', rt := Q } (L2.start N vs) H := by
    refine ⟨wd, _, μ, RelSv.start N rs, rm, ?_⟩
    unfold bodyM at hm
    generalize m (ds.map some ++ List.replicate (N.length - ds.length) none) μ = o at hm ⊢
    cases o with
    | ret d μ' => exact hm
    | nx δ μ' => exact fun w' σ H' le rm' _ => hm w' .non H' le rm' .non
    | exc x δ μ' => exact fun w' c d σ H' le rm' _ rx => hm w' c d H' le rm' rx
    | bk δ μ' => exact hm.elim
    | ct δ μ' => exact hm.elim
    | stuck => exact hm.elim
  refine wpAny_mono (ht.run [] s1 (L2.start N vs) H _ I hq) (fun fl s' hs => ?_) fun e s' hs => hs
  cases fl with
  | ret u =>
    obtain ⟨v, τ, G, J, rv, q⟩ := hs
    exact ⟨v, G, J.os, J.bare, J.base, J.hok, rv, q⟩
  | next =>
    obtain ⟨τ, G, J, q⟩ := hs
    exact ⟨V.non, G, J.os, J.bare, J.base, J.hok, rfl, q⟩
  | brk =>
    obtain ⟨_, _, _, q⟩ := hs
    exact False.elim q
  | cont =>
    obtain ⟨_, _, _, q⟩ := hs
    exact False.elim q
theorem code_ref (F : FunD K x qual params body scope dvs kws f fd) (hf : f = He.fAd K (x, none)) : fd.code = .ref (He.codeOf K (x, none)) := by
  obtain ⟨oc, od, dV, kV, doc, pm, an, cdv, ct, osl, rfl, lk, hcd, _, _⟩ := F.ex
  obtain ⟨c, rfl⟩ := He.codeIn_ref hcd
  subst hf
  rw [He.codeOf_eq lk rfl]
end
theorem HrdD.mk' {P : Program} {w : World} {K : PySem.W.Frag} {mg : Str → Option Value} {base : Heap} {T : List (Addr × Str)} {x a : Str} {st : Stmt} {g : Addr} {fd : FuncData} {N : List Str} {m : AskM → SM} (F : FnP K x st g fd) (hm : mg x = some (.ref g)) (S : FnScope N [a] (defScope st)) (h0 : N[0]? = some a) (hv : Vis (defScope st) a)
    (hb : ∀ (kV doc pm : Value) (an : Option Addr) (cdv ct : Value) (us : List Value), us.length = [a].length → bindArgs (PySem.W.fnOf x x (defArgs st) (defBody st) (defScope st) .none kV doc pm an cdv ct) ⟨us, []⟩ = pure ([a].zip us))
    (h : ∀ (ask : AskM) (A : Around) (outer : List Env) (s : Shared) (H : Hp) (cd : Value) (lam : V) (w0 : Wd), Room 1 (A.deeper (envOfC x (defScope st) s.heap.objs.size g cd)) → A.guards = some [] →
      (∀ (E : XK) (pn : List (Addr × Obj)) (xe : Value → Shared → Prop) (p1 p2 : Pos), Takes ((cxOf C8.CX0 P w K mg base N x (defScope st) g cd A outer s H C8.E0).tr pn xe) (WU E) →
        PE ((cxOf C8.CX0 P w K mg base N x (defScope st) g cd A outer s H C8.E0).tr pn xe) (.Call (.Name a p1) [] [] p2) (tE K mg { T := T, lam := lam, w0 := w0 } (WU E) (eAsk ask))) →
      PSs (cxOf C8.CX0 P w K mg base N x (defScope st) g cd A outer s H C8.E0).nox (defBody st) (tS K mg { T := T, lam := lam, w0 := w0 } W0 (m ask))) :
    HrdD P w K mg base T x st a (fun ask => bodyH N.length (m ask)) := ⟨g, fd, N, m, F, hm, S, h0, hv, F.bindsN hb, fun _ => rfl, h⟩
/-- the tables of several defs -/
def tabsB (K : PySem.W.Frag) (l : List (Str × Option Str)) : Bool := decide (((l.map (He.cT K)).map (·.2)).Nodup)
theorem tabsB_ok {K : PySem.W.Frag} {l : List (Str × Option Str)} (h : tabsB K l = true) : ((l.map (He.cT K)).map (·.2)).Nodup := of_decide_eq_true h
theorem tab_uniq (l : List (Addr × Str)) (h : (l.map (·.1)).Nodup) : ∀ p ∈ l, ∀ q ∈ l, q.1 = p.1 → q.2 = p.2 := by
  induction l with
  | nil => intro p hp; cases hp
  | cons a l ih =>
    rw [List.map_cons, List.nodup_cons] at h
    intro p hp q hq e
    rcases List.mem_cons.mp hp with h1 | h1
    · rcases List.mem_cons.mp hq with h2 | h2
      · rw [h1, h2]
      · exact absurd (by rw [← h1, ← e]; exact List.mem_map_of_mem (f := (·.1)) h2) h.1
    · rcases List.mem_cons.mp hq with h2 | h2
      · exact absurd (by rw [← h2, e]; exact List.mem_map_of_mem (f := (·.1)) h1) h.1
      · exact ih h.2 p h1 q h2 e
end Kw

set_option Elab.async false
set_option linter.all false
set_option maxRecDepth 100000
/-! further operations -/
namespace Kw
open PySem PySem.Spec PyProof.Rows L2
/-! ### l.extend(t), t a tuple -/
theorem ext_tup (l : Addr) (items : Array Value) (n : Nat) (b : Addr) (items2 : Array Value) (n2 : Nat) (od : Option Addr) (sl : Array (Option Value)) (h1 : ¬(!items.isEmpty && Builtin.List.listTooLong (items.size + items2.size)) = true) (h2 : items.size ≤ sizeLine) (h3 : (items ++ items2).size ≤ sizeLine + 1) :
    Meets (Builtin.«list.extend» ⟨[.ref l, .ref b], []⟩) (fun _ R s => s.heap.get? l = some { cls := .type "list", dict := none, data := .seq items n, slots := #[] } ∧ s.heap.get? b = some { cls := .type "tuple", dict := od, data := .seq items2 n2, slots := sl } ∧
      R (.ok (.ret Value.none)) { s with heap := s.heap.update l (Obj.mapSeq fun x => x ++ items2), toks := s.toks }) :=
  .of_wp fun prog w A R s ⟨hl, hb, h⟩ => by
    have k1 := PySem.AutoSeq1.idx_int
    have k2 := PySem.AutoSeq1.sub_tuple_tuple
    have k3 := PySem.AutoSeq1.sub_list_list
    have k4 := PySem.AutoSeq1.sub_tuple_list
    have k5 := PySem.AutoSeq1.sub_list_tuple
    obtain ⟨hp, g, d, tk, os⟩ := s
    wp_walk using (wpAny_updateSeq hl rfl (hz := h2) (_hz' := h3)), PySem.AutoSeq1.wpAny_loadPart' hl, PySem.AutoSeq1.wpAny_loadPart' hb
    exact ⟨_, rfl, h⟩
def rExtendT (K : PySem.W.Frag) : V → List V → Hp → VK → Prop := fun x vs H Q => ∃ l b xs zs, x = .ref l ∧ vs = [.ref b] ∧ H l = some (.lst xs) ∧ SqT K H b zs ∧ xs.length + zs.length ≤ sizeLine ∧ Q .non (upd H l (.lst (xs ++ zs)))
theorem mt_extendT {X : Cx} : MtM X "list.extend" (rExtendT X.K) := by
  intro pins s τ H x vs v us Q I rx rv h
  obtain ⟨l, b, xs, zs, rfl, rfl, at1, at2, small, q⟩ := h
  cases rx
  obtain ⟨u, rfl, ru⟩ := rv.one
  cases ru
  obtain ⟨z1, its, n, r, len1, e⟩ := I.lstM at1
  obtain ⟨its2, r2, ⟨o2, e2, cls2, n2, dt2⟩, _⟩ := I.tuple at2
  obtain ⟨oc, od, dt, sl⟩ := o2
  simp only at cls2 dt2
  subst cls2 dt2
  have len2 := r2.length
  have few : its.toArray.size + its2.toArray.size ≤ sizeLine := by rw [List.size_toArray, List.size_toArray]; omega
  have hl : ¬ (!its.toArray.isEmpty && Builtin.List.listTooLong (its.toArray.size + its2.toArray.size)) = true := by
    rw [notLongL few, Bool.and_false]
    exact Bool.false_ne_true
  refine call_meets F.slot_list_extend ⟨_, e, rfl⟩ F.entry_list_extend (F.args_list_extend_2 _ _) (ext_tup l its.toArray n b its2.toArray n2 od sl hl (by rw [List.size_toArray]; omega) (by rw [Array.size_append]; omega)) ⟨e, e2, ?_⟩
  refine ⟨.non, _, I.lset (its' := its ++ its2) at1 e (by simp) (r.append r2) (by rw [List.length_append]; omega), rfl, q⟩
/-- l.extend(x), x a list or a tuple -/
def gExt2 : D → List D → Mem → Option (D × Mem)
  | .loc l, [.tup ys], μ => match μ[l]? with
    | some (.lst xs) => if xs.length + ys.length ≤ sizeLine then some (.non, μ.set l (.lst (xs ++ ys))) else none
    | _ => none
  | x, ys, μ => gExtend x ys μ
section
variable {K : PySem.W.Frag} {mg : Str → Option Value} {T : List (Addr × Str)} {xs : List V} {x y : V} {H : Hp} {Q : VK}
theorem ext2_r (h : rDm K mg T gExt2 x xs H Q) : rExtend x xs H Q ∨ rExtendT K x xs H Q := by
  obtain ⟨w, μ, dx, ds, d, μ', r, rx, rs, e, q⟩ := h
  unfold gExt2 at e
  split at e
  · obtain ⟨y, rfl, ry⟩ := rs.one1
    cases rx
    split at e
    · next zs hz =>
      split at e
      · next hl =>
        cases e
        obtain ⟨vs, k1, k2⟩ := r.lst hz
        obtain ⟨b, us, rfl, k3, k4⟩ := tupOf_rel r ry rfl
        exact .inr ⟨_, b, vs, us, rfl, rfl, k1, k3, by rw [← k2.length, ← k4.length]; exact hl, q.write r hz (.lst (k2.append k4)) .non⟩
      · cases e
    · cases e
  · exact .inl (extend_r ⟨w, μ, _, _, d, μ', r, rx, rs, e, q⟩)
variable {X : Cx} {S : SI} {W : WX} {e o : Expr} {es : List Expr} {mo : EM} {mr : AM} {pos p apos : Pos}
theorem pe_ext2 (ho : PE X o (TEm X S W mo)) (ha : PA X (e :: es) (TAm X S W mr)) (hbase : attributeBase o "extend" X.env (eval o X.env) = eval o X.env := by rfl)
    (hfew : ((backTo pos (starEach (e :: es) X.env)).all (fun x => !x.1) && (backToKw pos (keywordEach [] X.env)).all (fun x => x.1.isSome) && decide ((e :: es).length + ([] : List Keyword).length + (if ([] : List Keyword).isEmpty then 0 else 1) < 30)) = true := by rfl)
    (hline : (apos.endLine == pos.line) = true := by rfl) (hs : starEach (e :: es) X.env = (false, eval e X.env) :: starEach es X.env := by rfl) (hplain : (backTo pos (starEach es X.env)).any (·.1) = false := by rfl) :
    PE X (.Call (.Attribute o "extend" apos) (e :: es) [] pos) (TEm X S W <| eMtL gExt2 mo mr) :=
  pe_mtL (fun to t ho ha => pe_bm PySem.F.plainAttrs_list PySem.F.slot_list_extend PySem.F.type_list_extend (MtR.or (MtR.ofM mt_extend) (MtR.ofM mt_extendT)) ho ha hbase hfew hline hs hplain) (fun _ _ _ _ => ext2_r) ho ha
end
theorem u200m {k : Nat} {A : Around} {h : Option Value} (r : Room k A) : (A.mark h).units + 200 < cLine := by
  have := r.un
  show A.units + 200 < _
  omega
end Kw

set_option Elab.async false
set_option linter.all false
set_option maxRecDepth 100000
/-! a law's box, whatever it draws by -/
namespace Kw
open PySem PySem.Spec PyProof.Rows L2
section
variable {δ : Sv} {μ : Mem} {d : D}
@[simp] theorem eChn_run {g g' : D → D → Mem → Option D} {ma mb mc : EM} : eChn g g' ma mb mc δ μ = (ma δ μ).bind fun x μ1 => (mb δ μ1).bind fun y μ2 => match g x y μ2 with
  | some (.bl k) => if k = true then (mc δ μ2).bind fun z μ3 => oOf (g' y z μ3) μ3 else .ok (.bl false) μ2
  | _ => .stuck := nr rfl
@[simp] theorem eNewRep_run {ma mb : EM} : eNewRep ma mb δ μ = (ma δ μ).bind fun x μ1 => (mb δ μ1).bind fun y μ2 => match repL x y with
  | some ys => .ok (.loc μ2.length) (μ2 ++ [.lst ys])
  | none => .stuck := nr rfl
@[simp] theorem eLcN_run {pl : Bool} {mi : NM} {g : GM} {mt : TM} {me : EM} {vs : List Nat} : eLcN pl mi g mt me vs δ μ = (mi δ μ).bind fun p μ1 => match lcN p.1 g mt me (wipeD δ vs) p.2 0 μ1 with
  | .ok ys μ2 => if ys.length ≤ sizeLine then (if pl = true then .ok (.loc μ2.length) (μ2 ++ [.lst ys]) else .ok (.lst ys) μ2) else .stuck
  | _ => .stuck := nr rfl
@[simp] theorem iZip2_run {mr : AM} : iZip2 mr δ μ = (mr δ μ).bind fun xs μ1 => match xs with
  | [x, y] => match seqV x, seqV y with
    | some a, some b => .ok (zipD a b) μ1
    | _, _ => .stuck
  | _ => .stuck := nr rfl
@[simp] theorem iEnu_run {mr : AM} : iEnu mr δ μ = (mr δ μ).bind fun xs μ1 => match xs with
  | [x] => match seqV x with
    | some a => .ok (enumD 0 a) μ1
    | none => .stuck
  | _ => .stuck := nr rfl
@[simp] theorem iSeq_run {ma : EM} : iSeq ma δ μ = (ma δ μ).bind fun x μ1 => match seqV x with
  | some xs => .ok xs μ1
  | none => .stuck := nr rfl
@[simp] theorem gSeq_run {n : Nat} {gs : GsM} : gSeq n gs d δ μ = match seqOf μ d with
  | some xs => if xs.length = n then gs xs δ μ else .stuck
  | none => .stuck := nr rfl
@[simp] theorem gsCons_run {g : GM} {gs : GsM} {r : List D} : gsCons g gs (d :: r) δ μ = (g d δ μ).then (gs r) := nr rfl
@[simp] theorem gsNil_run : gsNil [] δ μ = .nx δ μ := nr rfl
@[simp] theorem seqV_tup {xs : List D} : seqV (.tup xs) = some xs := nr rfl
@[simp] theorem seqV_lst {xs : List D} : seqV (.lst xs) = some xs := nr rfl
@[simp] theorem seqOf_tup {xs : List D} : seqOf μ (.tup xs) = some xs := nr rfl
@[simp] theorem seqOf_lst {xs : List D} : seqOf μ (.lst xs) = some xs := nr rfl
@[simp] theorem lstOf_lst {xs : List D} : lstOf μ (.lst xs) = some xs := nr rfl
@[simp] theorem lstX_lst {xs : List D} : lstX μ (.lst xs) = some xs := nr rfl
@[simp] theorem gTuple_tup {xs : List D} : gTuple [.tup xs] μ = some (.tup xs) := nr rfl
@[simp] theorem gTuple_lst {xs : List D} : gTuple [.lst xs] μ = some (.tup xs) := nr rfl
@[simp] theorem gList_tup {xs : List D} : gList [.tup xs] μ = some (.lst xs) := nr rfl
@[simp] theorem gList_lst {xs : List D} : gList [.lst xs] μ = some (.lst xs) := nr rfl
@[simp] theorem gLen_tup {xs : List D} : gLen [.tup xs] μ = some (.int xs.length) := nr rfl
@[simp] theorem gLen_lst {xs : List D} : gLen [.lst xs] μ = some (.int xs.length) := nr rfl
@[simp] theorem gInt_bl {k : Bool} : gInt [.bl k] μ = some (.int (if k then 1 else 0)) := nr rfl
@[simp] theorem eHrd_run {F : AskM → Mem → Out D} {body : EM} : eHrd F body δ μ = match F (fun μ' => body δ μ') μ with
  | .ok d μ' => .ok d μ'
  | _ => .stuck := nr rfl
@[simp] theorem sRaise_run {cn fld : Str} {ma : EM} : sRaise cn fld ma δ μ = (ma δ μ).bindS δ fun d μ1 => .exc ⟨cn, [(fld, d)]⟩ δ μ1 := nr rfl
@[simp] theorem then_exc {x : Xn} {k : Sv → Mem → SOut} : (SOut.exc x δ μ).then k = .exc x δ μ := nr rfl
theorem szN {n : Nat} (h : n ≤ 1000000) : n ≤ sizeLine := by show _ ≤ 2 ^ 24; omega
theorem gTupD_run {ds : List D} (h : ds.length ≤ 1000000) : gTupD ds μ = some (.tup ds) := if_pos (szN h)
theorem gLstD_run {ds : List D} (h : ds.length ≤ 1000000) : gLstD ds μ = some (.lst ds) := if_pos (szN h)
end
theorem body_exc {N : Nat} {m : SM} {ds : List D} {μ μ' : Mem} {δ δ' : Sv} {x : Xn} (hδ : ds.map some ++ List.replicate (N - ds.length) none = δ) (h : m δ μ = .exc x δ' μ') : bodyM N m ds μ = .exc x μ' := by
  unfold bodyM
  rw [hδ, h]
theorem callP_exc {m : FM} {ds : List D} {μ μ' : Mem} {x : Xn} (h : m ds [] = .exc x μ') (hd : locBs false 0 ds = true) (hx : locBs false 0 (x.fs.map (·.2)) = true) : callP m ds μ = .exc x μ := by
  unfold callP
  rw [if_pos hd, h]
  simp only
  rw [if_pos hx]
/-- a box: n ints -/
def Bxn (n : Nat) (μ : Mem) (l : Nat) : Prop := ∃ xs : List Int, xs.length = n ∧ μ[l]? = some (.lst (xs.map D.int))
section
variable {n : Nat} {μ : Mem} {l : Nat}
theorem Bxn.app {b : Ob} (h : Bxn n μ l) : Bxn n (μ ++ [b]) l := by
  obtain ⟨xs, e, h⟩ := h
  exact ⟨xs, e, by rw [List.getElem?_append_left (List.getElem?_eq_some_iff.mp h).1]; exact h⟩
theorem Bxn.set {i : Nat} {b : Ob} (h : Bxn n μ l) (hi : i ≠ l) : Bxn n (μ.set i b) l := by
  obtain ⟨xs, e, h⟩ := h
  exact ⟨xs, e, by rw [List.getElem?_set_ne hi]; exact h⟩
theorem Bxn.lt (h : Bxn n μ l) : l < μ.length := by
  obtain ⟨xs, e, h⟩ := h
  exact (List.getElem?_eq_some_iff.mp h).1
theorem Bxn.two (h : Bxn 2 μ l) : ∃ a b : Int, μ[l]? = some (.lst [.int a, .int b]) := by
  obtain ⟨xs, e, h⟩ := h
  match xs, e with
  | [a, b], _ => exact ⟨a, b, h⟩
theorem Bxn.three (h : Bxn 3 μ l) : ∃ a b c : Int, μ[l]? = some (.lst [.int a, .int b, .int c]) := by
  obtain ⟨xs, e, h⟩ := h
  match xs, e with
  | [a, b, c], _ => exact ⟨a, b, c, h⟩
theorem Bxn.same {μ' : Mem} (h : Bxn n μ l) (e : μ'[l]? = μ[l]?) : Bxn n μ' l := by
  obtain ⟨xs, e1, h⟩ := h
  exact ⟨xs, e1, e.trans h⟩
end
section
variable {μ : Mem} {l : Nat} {xs : List D} {x d : D}
theorem ixk {k : Nat} (h : μ[l]? = some (.lst xs)) (hk : xs[k]? = some x) : gIx (.loc l) (.int (k : Int)) μ = some x := by
  rw [ix_nat (xs := xs) (by simp [seqOf, lstOf, h]), hk]
theorem stk {k : Nat} (h : μ[l]? = some (.lst xs)) (hk : k < xs.length) : gSet (.loc l) (.int (k : Int)) d μ = some (μ.set l (.lst (xs.set k d))) := set_at h hk
end
theorem atI_in {α : Type} {xs : List α} {r : Int} (h0 : 0 ≤ r) (h1 : r < xs.length) : ∃ y, atI xs r = some y ∧ y ∈ xs := by
  have hn : r.toNat < xs.length := by omega
  refine ⟨xs[r.toNat], ?_, List.getElem_mem hn⟩
  unfold atI ixN
  rw [if_pos h0, if_pos (by omega)]
  exact List.getElem?_eq_getElem hn
theorem ix_scr {ns : List Int} {μ : Mem} {r : Int} (h0 : 0 ≤ r) (h1 : r < ns.length) : ∃ z, gIx (.scr (ns.map D.int)) (.int r) μ = some (.int z) := by
  obtain ⟨y, hy, hm⟩ := atI_in (xs := ns.map D.int) h0 (by simpa using h1)
  obtain ⟨z, _, rfl⟩ := List.mem_map.mp hm
  exact ⟨z, hy⟩
theorem len_scr {ns : List Int} {μ : Mem} : gLen [.scr (ns.map D.int)] μ = some (.int ns.length) := by simp [gLen, seqOf, lstOf]
theorem pow18 {μ : Mem} : gPow (.int 10) (.int 18) μ = some (.int 1000000000000000000) := rfl
/-- drawing -/
def TakeOk (n : Nat) (take : FM) : Prop := ∀ {μ : Mem} {l : Nat} {m : Int}, Bxn n μ l → 0 < m → m < 1073741824 → ∃ r μ', callM take [.loc l, .int m] μ = .ok (.int r) μ' ∧ 0 ≤ r ∧ r < m ∧ Bxn n μ' l ∧ Stay l μ μ'
/-- .. a natural number -/
theorem TakeOk.nat {n : Nat} {take : FM} (T : TakeOk n take) {μ : Mem} {l m : Nat} (hb : Bxn n μ l) (h0 : 0 < m) (h1 : m < 1073741824) : ∃ (r : Nat) (μ' : Mem), callM take [.loc l, .int (m : Int)] μ = .ok (.int (r : Int)) μ' ∧ r < m ∧ Bxn n μ' l ∧ Stay l μ μ' := by
  obtain ⟨r, μ', h, r0, r1, hb', st⟩ := T (m := (m : Int)) hb (by omega) (by omega)
  exact ⟨r.toNat, μ', by rw [h, Int.toNat_of_nonneg r0], by omega, hb', st⟩
def mPick (take : FM) : SM := sRet (e2 gIx (eVar 1) (eCallM take (aCons (eVar 0) (aCons (eAs gLen (aCons (eVar 1) aNil)) aNil))))
section
variable {n : Nat} {take : FM} {μ : Mem} {l : Nat} {xs : List D}
theorem pick_ok (T : TakeOk n take) {x : D} (hx : ∀ μ', Stay l μ μ' → seqOf μ' x = some xs) (hv : ∀ μ, vOf (some (some x)) μ = .ok x μ) (hn : ∀ μ', Stay l μ μ' → gLen [x] μ' = some (.int xs.length)) (hb : Bxn n μ l) (h0 : xs ≠ []) (h1 : xs.length < 1073741824) :
    ∃ y μ', callM (bodyM 2 (mPick take)) [.loc l, x] μ = .ok y μ' ∧ y ∈ xs ∧ Bxn n μ' l ∧ Stay l μ μ' := by
  have hp : 0 < xs.length := by cases xs with
    | nil => exact absurd rfl h0
    | cons a b => simp
  obtain ⟨r, μ', h, r0, r1, hb', hs⟩ := T (m := xs.length) hb (by omega) (by omega)
  obtain ⟨y, hy, hm⟩ := atI_in r0 r1
  have hl := hn μ (.refl l μ)
  have hq := hx μ' hs
  refine ⟨y, μ', callM_ok (body_ret (δ := [some (.loc l), some x]) rfl ?_) hs.1, hm, hb', hs⟩
  unfold mPick
  simp [eVar_run, hv, hl, h, gIx, hq, hy]
theorem pick_lst (T : TakeOk n take) (hb : Bxn n μ l) (h0 : xs ≠ []) (h1 : xs.length < 1073741824) : ∃ y μ', callM (bodyM 2 (mPick take)) [.loc l, .lst xs] μ = .ok y μ' ∧ y ∈ xs ∧ Bxn n μ' l ∧ Stay l μ μ' :=
  pick_ok T (x := .lst xs) (fun _ _ => rfl) (fun _ => rfl) (fun _ _ => by simp) hb h0 h1
theorem pick_tup (T : TakeOk n take) (hb : Bxn n μ l) (h0 : xs ≠ []) (h1 : xs.length < 1073741824) : ∃ y μ', callM (bodyM 2 (mPick take)) [.loc l, .tup xs] μ = .ok y μ' ∧ y ∈ xs ∧ Bxn n μ' l ∧ Stay l μ μ' :=
  pick_ok T (x := .tup xs) (fun _ _ => rfl) (fun _ => rfl) (fun _ _ => by simp) hb h0 h1
theorem pick_loc (T : TakeOk n take) {k : Nat} (hk : μ[k]? = some (.lst xs)) (hlk : k ≠ l) (hb : Bxn n μ l) (h0 : xs ≠ []) (h1 : xs.length < 1073741824) : ∃ y μ', callM (bodyM 2 (mPick take)) [.loc l, .loc k] μ = .ok y μ' ∧ y ∈ xs ∧ Bxn n μ' l ∧ Stay l μ μ' :=
  pick_ok T (x := .loc k) (fun μ' st => by simp [seqOf, lstOf, st.2 k hlk, hk]) (fun _ => rfl) (fun μ' st => by simp [gLen, seqOf, lstOf, st.2 k hlk, hk]) hb h0 h1
end
end Kw

set_option Elab.async false
set_option linter.all false
set_option maxRecDepth 100000
/-! what shows itself in few signs; data are equal to themselves -/
namespace Kw
open PySem PySem.Spec PyProof.Rows L2
/-- depth, how much -/
inductive Sm : Nat → Nat → D → Prop
  | non {n w : Nat} : Sm n w .non
  | bl {n w : Nat} {b : Bool} : Sm n w (.bl b)
  | int {n w : Nat} {i : Int} (h : -999999999999 ≤ i ∧ i ≤ 999999999999) : Sm n w (.int i)
  | str {n w : Nat} {x : Str} (h : (PyData.showable (.str x) && PyData.leavesShort 13 (.str x) && PyData.strOk (PyData.shown (.str x)) && PyData.canLay0 (.str x) && decide (x.cps.size ≤ w)) = true) : Sm n w (.str x)
  | tup {n w W : Nat} {xs : List D} (h : ∀ x ∈ xs, Sm n w x) (hl : xs.length * (w + 1) ≤ W) : Sm (n + 1) W (.tup xs)
  | lst {n w W : Nat} {xs : List D} (h : ∀ x ∈ xs, Sm n w x) (hl : xs.length * (w + 1) ≤ W) : Sm (n + 1) W (.lst xs)
  | scr {n w W : Nat} {xs : List D} (h : ∀ x ∈ xs, Sm n w x) (hl : xs.length * (w + 1) ≤ W) : Sm (n + 1) W (.scr xs)
structure Shw (n w : Nat) (p : PyData) : Prop where
  sh : p.showable = true
  nd : p.hasDict = false
  dp : p.depth ≤ n
  bk : p.bulk ≤ w
  sl : p.leavesShort 13 = true
  cl : p.canLay0 = true
  ok : PyData.strOk p.shown = true
structure Shws (n w : Nat) (ps : List PyData) : Prop where
  sh : PyData.showableAll ps = true
  nd : PyData.hasDictAll ps = false
  dp : PyData.depthAll ps ≤ n
  bk : PyData.bulkAll ps ≤ w
  sl : PyData.leavesShortAll 13 ps = true
  cl : PyData.canLayAll0 ps = true
  ok : ∀ t ∈ PyData.shownAll ps, PyData.strOk t = true
theorem strOk_iff {x : Str} : PyData.strOk x = true ↔ ∀ c ∈ x.cps.toList, c < 0x110000 := by
  unfold PyData.strOk
  rw [← Array.all_toList, List.all_eq_true]
  simp
theorem strOk_lit (s : String) : PyData.strOk (Str.ofString s) = true := by
  rw [strOk_iff]
  intro c hc
  unfold Str.ofString at hc
  rw [cpsOfBytes_string] at hc
  simp only [List.mem_map] at hc
  obtain ⟨ch, _, rfl⟩ := hc
  have h := ch.valid
  simp only [UInt32.isValidChar, Nat.isValidChar] at h
  show ch.val.toNat < _
  omega
theorem strOk_app {x y : Str} (h1 : PyData.strOk x = true) (h2 : PyData.strOk y = true) : PyData.strOk (x ++ y) = true := by
  rw [strOk_iff] at *
  intro c hc
  rw [PySem.Str.cps_append, Array.toList_append, List.mem_append] at hc
  exact hc.elim (h1 c) (h2 c)
theorem strOk_join {sep : Str} (hs : PyData.strOk sep = true) : ∀ {ts : List Str}, (∀ t ∈ ts, PyData.strOk t = true) → PyData.strOk (Str.join sep ts) = true
  | [], _ => strOk_lit ""
  | [t], h => h t (.head _)
  | t :: u :: r, h => by
    have e : Str.join sep (t :: u :: r) = t ++ sep ++ Str.join sep (u :: r) := rfl
    rw [e]
    exact strOk_app (strOk_app (h t (.head _)) hs) (strOk_join hs fun y hy => h y (.tail _ hy))
theorem shws_of {n w : Nat} : ∀ {xs : List D}, (∀ x ∈ xs, ∃ p, (∀ f, pyW f x = some p) ∧ Shw n w p) → ∃ ps, (∀ f, pyWs f xs = some ps) ∧ Shws n (xs.length * (w + 1)) ps
  | [], _ => ⟨[], fun _ => rfl, rfl, rfl, Nat.zero_le _, Nat.zero_le _, rfl, rfl, fun _ h => nomatch h⟩
  | x :: xs, h => by
    obtain ⟨p, e, q⟩ := h x (.head _)
    obtain ⟨ps, es, qs⟩ := shws_of (xs := xs) fun y hy => h y (.tail _ hy)
    refine ⟨p :: ps, fun f => by rw [pyWs, e f, es f], ?_, ?_, ?_, ?_, ?_, ?_, ?_⟩
    · rw [PyData.showableAll, q.sh, qs.sh]; rfl
    · rw [PyData.hasDictAll, q.nd, qs.nd]; rfl
    · rw [PyData.depthAll]; exact Nat.max_le.mpr ⟨q.dp, qs.dp⟩
    · rw [PyData.bulkAll, List.length_cons, Nat.succ_mul]; have := q.bk; have := qs.bk; omega
    · rw [PyData.leavesShortAll, q.sl, qs.sl]; rfl
    · rw [PyData.canLayAll0, q.cl, qs.cl]; rfl
    · intro t ht
      rw [PyData.shownAll_cons] at ht
      cases ht with
      | head => exact q.ok
      | tail _ ht => exact qs.ok t ht
theorem ok_list {ps : List PyData} (h : ∀ t ∈ PyData.shownAll ps, PyData.strOk t = true) : PyData.strOk (PyData.list ps).shown = true := by
  rw [PyData.shown_list]
  exact strOk_app (strOk_app (strOk_lit _) (strOk_join (strOk_lit _) h)) (strOk_lit _)
theorem ok_tuple {ps : List PyData} (h : ∀ t ∈ PyData.shownAll ps, PyData.strOk t = true) : PyData.strOk (PyData.tuple ps).shown = true := by
  rw [PyData.shown_tuple]
  exact strOk_app (strOk_app (strOk_lit _) (strOk_join (strOk_lit _) h)) (strOk_lit _)
theorem Sm.py {n w : Nat} {d : D} (h : Sm n w d) : ∃ p, (∀ f, pyW f d = some p) ∧ Shw n w p := by
  induction h with
  | non => exact ⟨.none, fun _ => rfl, rfl, rfl, Nat.zero_le _, Nat.zero_le _, rfl, rfl, by rw [PyData.shown_none]; exact strOk_lit _⟩
  | bl => exact ⟨.bool _, fun _ => rfl, rfl, rfl, Nat.zero_le _, Nat.zero_le _, rfl, rfl, by rw [PyData.shown_bool]; split <;> exact strOk_lit _⟩
  | @int n w i h =>
    have h13 := PyData.shown_int_le2 h.1 h.2
    refine ⟨.int i, fun _ => rfl, ?_, rfl, Nat.zero_le _, Nat.zero_le _, ?_, rfl, by rw [PyData.shown_int]; exact strOk_lit _⟩
    · rw [PyData.showable]
      have hn : i.natAbs < 2 ^ 1920 := by
        have : i.natAbs ≤ 2 ^ 40 := by have : (2:Nat) ^ 40 = 1099511627776 := by decide
                                       omega
        exact Nat.lt_of_le_of_lt this (Nat.pow_lt_pow_right (by decide) (by decide))
      by_cases h0 : i.natAbs = 0
      · rw [h0]; decide
      · exact decide_eq_true ((Nat.log2_lt h0).mpr hn)
    · rw [PyData.leavesShort]; exact decide_eq_true h13
  | @str n w x h =>
    simp only [Bool.and_eq_true, decide_eq_true_eq] at h
    exact ⟨.str x, fun _ => rfl, h.1.1.1.1, rfl, Nat.zero_le _, h.2, h.1.1.1.2, h.1.2, h.1.1.2⟩
  | @tup n w W xs _ hl ih =>
    obtain ⟨ps, e, q⟩ := shws_of ih
    exact ⟨.tuple ps, fun f => by rw [pyW, e f], by rw [PyData.showable, q.sh], by rw [PyData.hasDict, q.nd], by rw [PyData.depth]; exact Nat.succ_le_succ q.dp, by rw [PyData.bulk]; exact Nat.le_trans q.bk hl, by rw [PyData.leavesShort, q.sl], by rw [PyData.canLay0, q.cl], ok_tuple q.ok⟩
  | @lst n w W xs _ hl ih =>
    obtain ⟨ps, e, q⟩ := shws_of ih
    exact ⟨.list ps, fun f => by rw [pyW, e f], by rw [PyData.showable, q.sh], by rw [PyData.hasDict, q.nd], by rw [PyData.depth]; exact Nat.succ_le_succ q.dp, by rw [PyData.bulk]; exact Nat.le_trans q.bk hl, by rw [PyData.leavesShort, q.sl], by rw [PyData.canLay0, q.cl], ok_list q.ok⟩
  | @scr n w W xs _ hl ih =>
    obtain ⟨ps, e, q⟩ := shws_of ih
    exact ⟨.list ps, fun f => by rw [pyW, e f], by rw [PyData.showable, q.sh], by rw [PyData.hasDict, q.nd], by rw [PyData.depth]; exact Nat.succ_le_succ q.dp, by rw [PyData.bulk]; exact Nat.le_trans q.bk hl, by rw [PyData.leavesShort, q.sl], by rw [PyData.canLay0, q.cl], ok_list q.ok⟩
theorem Sm.repr {n w : Nat} {d : D} (h : Sm n w d) (hn : n ≤ 60) (hw : w ≤ 1048576) : ∃ s, PyData.strOk s = true ∧ ∀ μ, gRepr [d] μ = some (.str s) := by
  obtain ⟨p, e, q⟩ := h.py
  refine ⟨p.shown, q.ok, fun μ => ?_⟩
  have e' : pyOf μ d = some p := e _
  unfold gRepr
  simp only [e']
  exact if_pos ⟨q.sh, q.nd, Nat.le_trans q.dp (by omega), PyData.shown_fits_bulk (by decide) (by decide) q.sl (Nat.le_trans q.bk (by omega))⟩
theorem Sm.eqs {n w : Nat} {d : D} (h : Sm n w d) (hn : n ≤ 60) (μ : Mem) : eqD d d μ = some true := by
  obtain ⟨p, e, q⟩ := h.py
  have s : SeqAt.shaped p = true := by
    unfold SeqAt.shaped
    rw [q.cl, Bool.true_and]
    exact decide_eq_true (Nat.le_trans q.dp (by omega))
  unfold eqD pyOf
  rw [e]
  simp only [s, Bool.and_self, if_true]
  exact congrArg some (SeqAt.eqv_refl p q.cl)
theorem Sm.ne {n w : Nat} {d : D} (h : Sm n w d) (hn : n ≤ 60) (μ : Mem) : gNe d d μ = some (.bl false) := by
  unfold gNe
  rw [h.eqs hn]
  rfl
theorem Sm.eq {n w : Nat} {d : D} (h : Sm n w d) (hn : n ≤ 60) (μ : Mem) : gEq d d μ = some (.bl true) := by
  unfold gEq
  rw [h.eqs hn]
theorem str_nes {s : Str} (hs : PyData.strOk s = true) (μ : Mem) : gNe (.str s) (.str s) μ = some (.bl false) := by
  unfold gNe eqD pyOf
  simp only [pyW]
  have h1 : SeqAt.shaped (.str s) = true := by
    unfold SeqAt.shaped
    rw [PyData.canLay0, hs]
    rfl
  rw [h1]
  simp [PyData.eqv]
theorem Sm.mono {n w : Nat} {d : D} (h : Sm n w d) : ∀ {n' w' : Nat}, n ≤ n' → w ≤ w' → Sm n' w' d := by
  induction h with
  | non => exact fun _ _ => .non
  | bl => exact fun _ _ => .bl
  | int h => exact fun _ _ => .int h
  | str h =>
    intro n' w' _ hw
    simp only [Bool.and_eq_true, decide_eq_true_eq] at h
    exact .str (by simp only [Bool.and_eq_true, decide_eq_true_eq]; exact ⟨h.1, by omega⟩)
  | @tup n w W xs _ hl ih =>
    intro n' w' hn hw
    obtain ⟨m, rfl⟩ : ∃ m, n' = m + 1 := ⟨n' - 1, by omega⟩
    exact .tup (fun x hx => ih x hx (by omega) (Nat.le_refl w)) (by omega)
  | @lst n w W xs _ hl ih =>
    intro n' w' hn hw
    obtain ⟨m, rfl⟩ : ∃ m, n' = m + 1 := ⟨n' - 1, by omega⟩
    exact .lst (fun x hx => ih x hx (by omega) (Nat.le_refl w)) (by omega)
  | @scr n w W xs _ hl ih =>
    intro n' w' hn hw
    obtain ⟨m, rfl⟩ : ∃ m, n' = m + 1 := ⟨n' - 1, by omega⟩
    exact .scr (fun x hx => ih x hx (by omega) (Nat.le_refl w)) (by omega)
/-! ### running a try -/
section
variable {δ : Sv} {μ : Mem} {x : Xn} {tab : ExT}
theorem tryU_nx {b : SM} {hs : List (Str × Nat × SM)} {o : SOut} (h : b δ μ = o) (ho : ∀ x δ' μ', o ≠ .exc x δ' μ') : sTryU tab b hs δ μ = o := by
  unfold sTryU
  rw [h]
  cases o with
  | exc x δ' μ' => exact absurd rfl (ho _ _ _)
  | _ => rfl
theorem tryU_exc {b : SM} {hs : List (Str × Nat × SM)} {δ' : Sv} {μ' : Mem} (h : b δ μ = .exc x δ' μ') : sTryU tab b hs δ μ = goH tab x hs (List.replicate δ.length none) μ' := by
  unfold sTryU
  rw [h]
theorem goH_no {c : Str} {i : Nat} {m : SM} {r : List (Str × Nat × SM)} (h : tab.lookup (x.cls, c) = some false) : goH tab x ((c, i, m) :: r) δ μ = goH tab x r δ μ := by
  rw [goH, h]
theorem goH_ret {c : Str} {i : Nat} {m : SM} {r : List (Str × Nat × SM)} {d : D} {μ' : Mem} (h : tab.lookup (x.cls, c) = some true) (hn : δ.all noX = true) (hm : m (δ.set i (some (.exc x.cls x.fs))) μ = .ret d μ') : goH tab x ((c, i, m) :: r) δ μ = .ret d μ' := by
  rw [goH, h]
  simp only
  rw [if_pos hn, hm]
  rfl
@[simp] theorem eAsk_run {ask : AskM} {r : Sv} : eAsk ask (some .lam :: r) μ = ask μ := nr rfl
@[simp] theorem eFld_run {c f : Str} {i : Nat} : eFld c f i δ μ = match δ[i]? with
  | some (some (.exc c' fs)) => if c' = c then (match fs.lookup f with
      | some d => .ok d μ
      | none => .stuck) else .stuck
  | _ => .stuck := nr rfl
@[simp] theorem eIsX_run {c : Str} {b : Bool} {i : Nat} : eIsX c b i δ μ = match δ[i]? with
  | some (some (.exc c' fs)) => if c' = c then .ok (.bl b) μ else .stuck
  | _ => .stuck := nr rfl
theorem bodyH_ret {N : Nat} {m : SM} {d : D} {μ' : Mem} (h : m (some D.lam :: List.replicate (N - 1) none) μ = .ret d μ') : bodyH N m μ = .ok d μ' := by
  unfold bodyH
  rw [h]
end
theorem loopS_exc {g : GM} {b : SM} {d : D} {ds : List D} {δ δ1 δ2 : Sv} {μ μ1 μ2 : Mem} {x : Xn} (h1 : g d δ μ = .nx δ1 μ1) (h2 : b δ1 μ1 = .exc x δ2 μ2) : loopS g b (d :: ds) δ μ = .exc x δ2 μ2 := by
  rw [loopS, h1]
  simp only [then_nx, h2]
/-- a try's answer: the value, told; or the one field of the error -/
theorem bind_okc {α β : Type} {a : α} {f : α → Mem → Out β} {μ : Mem} : (Out.ok a μ).bind f = f a μ := nr rfl
end Kw

set_option Elab.async false
set_option linter.all false
set_option maxRecDepth 100000
/-! the words module's small tests, for all laws -/
namespace Kw
open PySem PySem.Spec PyProof.Rows L2
/-- closed data -/
inductive Pl : D → Prop
  | non : Pl .non
  | bl {b : Bool} : Pl (.bl b)
  | int {i : Int} : Pl (.int i)
  | str {x : Str} : Pl (.str x)
  | tup {xs : List D} (h : locBs false 0 xs = true) : Pl (.tup xs)
  | lst {xs : List D} (h : locBs false 0 xs = true) : Pl (.lst xs)
theorem Pl.lc {d : D} (h : Pl d) : locB false 0 d = true := by
  cases h with
  | tup h => rw [locB]; exact h
  | lst h => rw [locB]; exact h
  | _ => rfl
theorem Pl.vo {d : D} (h : Pl d) (μ : Mem) : vOf (some (some d)) μ = .ok d μ := by cases h <;> rfl
theorem Pl.ls {d : D} {r : List D} (h : Pl d) (hr : locBs false 0 r = true) : locBs false 0 (d :: r) = true := by rw [locBs, h.lc, hr]; rfl
theorem locBs_all {xs : List D} (h : ∀ x ∈ xs, Pl x) : locBs false 0 xs = true := by
  induction xs with
  | nil => rfl
  | cons x xs ih => exact (h x (.head _)).ls (ih fun y hy => h y (.tail _ hy))
def isIntD : D → Bool
  | .int _ => true
  | _ => false
def isSeqD : D → Bool
  | .tup _ => true
  | .lst _ => true
  | _ => false
def itD : D → List D
  | .tup xs => xs
  | .lst xs => xs
  | _ => []
def numD : D → Bool
  | .int i => decide (0 ≤ i)
  | _ => false
def belD (m : Int) : D → Bool
  | .int i => decide (0 ≤ i) && decide (i < m)
  | _ => false
def octsD (d : D) : Bool := isSeqD d && (itD d).all (belD 256)
def w_is_integer : FM := bodyM 1 (sRet (eAndM (e1 (gIsi ["int"]) (eVar 0)) (eNotM (e1 (gIsi ["bool"]) (eVar 0)))))
def w_is_number : FM := bodyM 1 (sRet (eAndM (eCallP w_is_integer (aCons (eVar 0) aNil)) (e2 gGe (eVar 0) (eC (.int 0)))))
def w_is_below : FM := bodyM 2 (sRet (eAndM (eCallP w_is_number (aCons (eVar 0) aNil)) (e2 gLt (eVar 0) (eVar 1))))
def w_is_sequence : FM := bodyM 1 (sRet (e1 (gIsi ["list", "tuple"]) (eVar 0)))
def w_is_octets : FM := bodyM 2 (sRet (eAndM (eCallP w_is_sequence (aCons (eVar 0) aNil)) (eAs gAll (aCons (eLc (iSeq (eVar 0)) (gNm 1) tYesM (eCallP w_is_below (aCons (eVar 1) (aCons (eC (.int 256)) aNil))) [1]) aNil))))
section
variable {d : D} {μ : Mem}
theorem gIsi_int (h : Pl d) : gIsi ["int"] d μ = some (.bl (match d with | .int _ => true | .bl _ => true | _ => false)) := by
  cases h <;> rfl
theorem gIsi_bool (h : Pl d) : gIsi ["bool"] d μ = some (.bl (match d with | .bl _ => true | _ => false)) := by
  cases h <;> rfl
theorem gIsi_seq (h : Pl d) : gIsi ["list", "tuple"] d μ = some (.bl (isSeqD d)) := by
  cases h <;> rfl
theorem w_int (h : Pl d) : callP w_is_integer [d] μ = .ok (.bl (isIntD d)) μ := by
  refine callP_ok (μ' := []) (body_ret (δ := [some d]) rfl ?_) (h.ls rfl) rfl
  simp [eVar_run, h.vo, gIsi_int h, gIsi_bool h]
  cases h <;> simp [isIntD]
theorem w_num (h : Pl d) : callP w_is_number [d] μ = .ok (.bl (numD d)) μ := by
  refine callP_ok (μ' := []) (body_ret (δ := [some d]) rfl ?_) (h.ls rfl) rfl
  simp [eVar_run, h.vo, w_int h]
  cases h <;> simp [isIntD, numD]
theorem w_bel (h : Pl d) {m : Int} : callP w_is_below [d, .int m] μ = .ok (.bl (belD m d)) μ := by
  refine callP_ok (μ' := []) (body_ret (δ := [some d, some (.int m)]) rfl ?_) (h.ls rfl) rfl
  simp [eVar_run, h.vo, w_num h]
  cases h <;> simp [numD, belD]
  split
  · simp_all
  · next hh => simp [hh]
theorem w_seq (h : Pl d) : callP w_is_sequence [d] μ = .ok (.bl (isSeqD d)) μ := by
  refine callP_ok (μ' := []) (body_ret (δ := [some d]) rfl ?_) (h.ls rfl) rfl
  simp [eVar_run, h.vo, gIsi_seq h]
theorem lcL_D {me : EM} {δ : Sv} {f : D → D} {i : Nat} (xs : List D) (h : ∀ a ∈ xs, me (δ.set i (some a)) μ = .ok (f a) μ) : lcL (gNm i) tYesM me δ xs μ = .ok (xs.map f) μ := by
  have := lcL_map (e := fun d : D => d) (i := i) (f := f) xs h
  simpa using this
theorem all_mapD (es : List D) (f : D → Bool) : gAll [.lst (es.map fun e => D.bl (f e))] μ = some (.bl (es.all f)) := by
  simp [gAll, lstOf, boolsOf_map, List.all_map]
theorem seqV_D (h : isSeqD d = true) : seqV d = some (itD d) := by
  cases d <;> first | rfl | cases h
theorem w_octs (h : Pl d) (hi : ∀ x ∈ itD d, Pl x) (hl : (itD d).length ≤ 1000000) : callP w_is_octets [d] μ = .ok (.bl (octsD d)) μ := by
  refine callP_ok (μ' := []) (body_ret (δ := [some d, none]) rfl ?_) (h.ls rfl) rfl
  simp only [sRet_run, eAnd_run, eCallP_run, aCons_run, aNil_run, eVar_run, List.getElem?_cons_zero, h.vo, bind_ok, w_seq h, tru_bl, bOf_some]
  unfold octsD
  by_cases hs : isSeqD d = true
  · have hlc := lcL_D (μ := []) (me := eCallP w_is_below (aCons (eVar 1) (aCons (eC (.int 256)) aNil))) (δ := [some d, none]) (i := 1) (f := fun x => .bl (belD 256 x)) (itD d) fun a ha => by
      simp [eVar_run, (hi a ha).vo, w_bel (hi a ha)]
    have hw : wipeD [some d, none] [1] = [some d, none] := rfl
    rw [if_pos hs]
    simp only [eAs_run, aCons_run, eLc_run, iSeq_run, eVar_run, List.getElem?_cons_zero, h.vo, bind_ok, seqV_D hs, hw, hlc]
    rw [if_pos (by rw [List.length_map]; exact szN hl)]
    simp only [bind_ok, aNil_run, all_mapD, oOf_some, bindS_ok, hs, Bool.true_and]
  · rw [if_neg hs]
    simp only [bindS_ok]
    simp at hs
    rw [hs]
    rfl
end
theorem sm_lc {n w : Nat} {d : D} (h : Sm n w d) : locB false 0 d = true := by
  have key : ∀ xs : List D, (∀ x ∈ xs, locB false 0 x = true) → locBs false 0 xs = true := fun xs hx => by
    induction xs with
    | nil => rfl
    | cons x xs ih => rw [locBs, hx x (.head _), ih fun y hy => hx y (.tail _ hy)]; rfl
  induction h with
  | tup h _ ih => rw [locB]; exact key _ ih
  | lst h _ ih => rw [locB]; exact key _ ih
  | scr h _ ih => rw [locB, key _ ih]; rfl
  | _ => rfl
/-! ### loops, by what was passed -/
section
variable {g : GM} {b : SM}
theorem loopS_preT {α : Type} {e : α → D} {R : List α → Sv → Mem → Prop} {ds : List D} {all : List α} (st : ∀ pre a post δ μ, pre ++ a :: post = all → R pre δ μ → ∃ δ1 δ2 μ1 μ2, g (e a) δ μ = .nx δ1 μ1 ∧ (b δ1 μ1 = .nx δ2 μ2 ∨ b δ1 μ1 = .ct δ2 μ2) ∧ R (pre ++ [a]) δ2 μ2) :
    ∀ (xs done : List α) {δ : Sv} {μ : Mem}, done ++ xs = all → R done δ μ → ∃ δ' μ', loopS g b (xs.map e ++ ds) δ μ = loopS g b ds δ' μ' ∧ R all δ' μ'
  | [], done, δ, μ, ha, h => ⟨δ, μ, rfl, by rw [List.append_nil] at ha; rw [← ha]; exact h⟩
  | a :: xs, done, δ, μ, ha, h => by
    obtain ⟨δ1, δ2, μ1, μ2, h1, h2, h3⟩ := st done a xs δ μ ha h
    obtain ⟨δ', μ', h4, h5⟩ := loopS_preT st xs (done ++ [a]) (by rw [List.append_assoc]; exact ha) h3
    refine ⟨δ', μ', ?_, h5⟩
    rw [List.map_cons, List.cons_append]
    rcases h2 with h2 | h2
    · rw [loopS_nx h1 h2, h4]
    · rw [loopS_ct h1 h2, h4]
theorem loopS_pre {α : Type} {e : α → D} {R : List α → Sv → Mem → Prop} (xs : List α) {δ : Sv} {μ : Mem} (st : ∀ pre a post δ μ, pre ++ a :: post = xs → R pre δ μ → ∃ δ1 δ2 μ1 μ2, g (e a) δ μ = .nx δ1 μ1 ∧ (b δ1 μ1 = .nx δ2 μ2 ∨ b δ1 μ1 = .ct δ2 μ2) ∧ R (pre ++ [a]) δ2 μ2) (h : R [] δ μ) :
    ∃ δ' μ', loopS g b (xs.map e) δ μ = .nx δ' μ' ∧ R xs δ' μ' := by
  have := loopS_preT (ds := []) st xs [] rfl h
  rw [List.append_nil] at this
  exact this
theorem loopS_enpT {α : Type} {e : α → D} {R : List α → Sv → Mem → Prop} {ds : List D} {all : List α} (st : ∀ pre a post δ μ, pre ++ a :: post = all → R pre δ μ → ∃ δ1 δ2 μ1 μ2, g (.tup [.int (pre.length : Int), e a]) δ μ = .nx δ1 μ1 ∧ (b δ1 μ1 = .nx δ2 μ2 ∨ b δ1 μ1 = .ct δ2 μ2) ∧ R (pre ++ [a]) δ2 μ2) :
    ∀ (xs done : List α) {δ : Sv} {μ : Mem}, done ++ xs = all → R done δ μ → ∃ δ' μ', loopS g b (enumD done.length (xs.map e ++ ds)) δ μ = loopS g b (enumD all.length ds) δ' μ' ∧ R all δ' μ'
  | [], done, δ, μ, ha, h => ⟨δ, μ, by rw [List.append_nil] at ha; rw [← ha]; rfl, by rw [List.append_nil] at ha; rw [← ha]; exact h⟩
  | a :: xs, done, δ, μ, ha, h => by
    obtain ⟨δ1, δ2, μ1, μ2, h1, h2, h3⟩ := st done a xs δ μ ha h
    obtain ⟨δ', μ', h4, h5⟩ := loopS_enpT st xs (done ++ [a]) (by rw [List.append_assoc]; exact ha) h3
    refine ⟨δ', μ', ?_, h5⟩
    rw [List.length_append] at h4
    rw [List.map_cons, List.cons_append, enumD]
    rcases h2 with h2 | h2
    · rw [loopS_nx h1 h2]; exact h4
    · rw [loopS_ct h1 h2]; exact h4
theorem loopS_enp {α : Type} {e : α → D} {R : List α → Sv → Mem → Prop} (xs : List α) {δ : Sv} {μ : Mem} (st : ∀ pre a post δ μ, pre ++ a :: post = xs → R pre δ μ → ∃ δ1 δ2 μ1 μ2, g (.tup [.int (pre.length : Int), e a]) δ μ = .nx δ1 μ1 ∧ (b δ1 μ1 = .nx δ2 μ2 ∨ b δ1 μ1 = .ct δ2 μ2) ∧ R (pre ++ [a]) δ2 μ2) (h : R [] δ μ) :
    ∃ δ' μ', loopS g b (enumD 0 (xs.map e)) δ μ = .nx δ' μ' ∧ R xs δ' μ' := by
  have := loopS_enpT (ds := []) st xs [] rfl h
  rw [List.append_nil] at this
  exact this
theorem enumD_app : ∀ (n : Nat) (xs ys : List D), enumD n (xs ++ ys) = enumD n xs ++ enumD (n + xs.length) ys
  | n, [], ys => rfl
  | n, x :: xs, ys => by
    rw [List.cons_append, enumD, enumD, enumD_app, List.cons_append, List.length_cons]
    congr 2
    congr 1
    omega
end
/-! ### equal to itself -/
inductive El : Nat → D → Prop
  | non {n : Nat} : El n .non
  | bl {n : Nat} {b : Bool} : El n (.bl b)
  | int {n : Nat} {i : Int} : El n (.int i)
  | str {n : Nat} {x : Str} (h : PyData.strOk x = true) : El n (.str x)
  | tup {n : Nat} {xs : List D} (h : ∀ x ∈ xs, El n x) : El (n + 1) (.tup xs)
  | lst {n : Nat} {xs : List D} (h : ∀ x ∈ xs, El n x) : El (n + 1) (.lst xs)
theorem els_of {n : Nat} : ∀ {xs : List D}, (∀ x ∈ xs, ∃ p, (∀ f, pyW f x = some p) ∧ p.depth ≤ n ∧ p.canLay0 = true) → ∃ ps, (∀ f, pyWs f xs = some ps) ∧ PyData.depthAll ps ≤ n ∧ PyData.canLayAll0 ps = true
  | [], _ => ⟨[], fun _ => rfl, Nat.zero_le _, rfl⟩
  | x :: xs, h => by
    obtain ⟨p, e, q1, q2⟩ := h x (.head _)
    obtain ⟨ps, es, r1, r2⟩ := els_of (xs := xs) fun y hy => h y (.tail _ hy)
    exact ⟨p :: ps, fun f => by rw [pyWs, e f, es f], by rw [PyData.depthAll]; exact Nat.max_le.mpr ⟨q1, r1⟩, by rw [PyData.canLayAll0, q2, r2]; rfl⟩
theorem El.py {n : Nat} {d : D} (h : El n d) : ∃ p, (∀ f, pyW f d = some p) ∧ p.depth ≤ n ∧ p.canLay0 = true := by
  induction h with
  | non => exact ⟨.none, fun _ => rfl, Nat.zero_le _, rfl⟩
  | bl => exact ⟨.bool _, fun _ => rfl, Nat.zero_le _, rfl⟩
  | int => exact ⟨.int _, fun _ => rfl, Nat.zero_le _, rfl⟩
  | str h => exact ⟨.str _, fun _ => rfl, Nat.zero_le _, by rw [PyData.canLay0, h]⟩
  | tup _ ih =>
    obtain ⟨ps, e, q1, q2⟩ := els_of ih
    exact ⟨.tuple ps, fun f => by rw [pyW, e f], by rw [PyData.depth]; exact Nat.succ_le_succ q1, by rw [PyData.canLay0, q2]⟩
  | lst _ ih =>
    obtain ⟨ps, e, q1, q2⟩ := els_of ih
    exact ⟨.list ps, fun f => by rw [pyW, e f], by rw [PyData.depth]; exact Nat.succ_le_succ q1, by rw [PyData.canLay0, q2]⟩
theorem El.eqs {n : Nat} {d : D} (h : El n d) (hn : n ≤ 60) (μ : Mem) : eqD d d μ = some true := by
  obtain ⟨p, e, q1, q2⟩ := h.py
  have s : SeqAt.shaped p = true := by
    unfold SeqAt.shaped
    rw [q2, Bool.true_and]
    exact decide_eq_true (Nat.le_trans q1 (by omega))
  unfold eqD pyOf
  rw [e]
  simp only [s, Bool.and_self, if_true]
  exact congrArg some (SeqAt.eqv_refl p q2)
theorem El.ne {n : Nat} {d : D} (h : El n d) (hn : n ≤ 60) (μ : Mem) : gNe d d μ = some (.bl false) := by
  unfold gNe
  rw [h.eqs hn]
  rfl
theorem El.ints {n : Nat} (zs : List Int) : ∀ x ∈ zs.map D.int, El n x := fun x hx => by
  obtain ⟨z, _, rfl⟩ := List.mem_map.mp hx
  exact .int
/-- equal reprs -/
theorem rep_ne {n w : Nat} {d : D} (h : Sm n w d) (hn : n ≤ 60) (hw : w ≤ 1048576) : ∃ s, PyData.strOk s = true ∧ (∀ μ, gRepr [d] μ = some (.str s)) ∧ ∀ μ, gNe (.str s) (.str s) μ = some (.bl false) := by
  obtain ⟨s, h1, h2⟩ := h.repr hn hw
  exact ⟨s, h1, h2, str_nes h1⟩
end Kw

set_option Elab.async false
set_option linter.all false
set_option maxRecDepth 100000
set_option maxHeartbeats 2000000
/-! lists and tuples backwards: x[::-1] -/
namespace HT
open PySem PySem.Spec PyProof.Rows
section
variable {prog : Program} {w : World} {A : Around} {E : Value → Shared → Prop} {s : Shared}
theorem adjust_rev (n : Nat) : Builtin.Slice.sliceAdjust none none (-1) (n : Int) = ((n : Int) - 1, -1) := rfl
theorem places_rev (n : Nat) : Builtin.Slice.slicePlaces ((n : Int) - 1) (-1) (-1) = n := by
  unfold Builtin.Slice.slicePlaces
  have h1 : ¬ (-1 : Int) > 0 := by omega
  have h2 : (-(-1) : Int) = 1 := by omega
  simp only [h1, if_false, h2, Int.ediv_one]
  split <;> omega
theorem sliceApplied_rev {sl : Addr} {vk : Value} {n : Nat} {Q : Int × Int × Nat → Shared → Prop} (hs : s.heap.IsSliceOf sl .none .none vk) (pk : IsPart vk (some (-1)))
    (h : Q ((n : Int) - 1, -1, n) s) : wpAny (model prog w) A (Builtin.Slice.sliceApplied (.ref sl) (pure (n : Int))) Q E s := by
  obtain ⟨os, hos, hcs, hds⟩ := id hs
  unfold Builtin.Slice.sliceApplied Builtin.Slice.sliceFields
  refine wpAny_bind (wpAny_bind (wpAny_field hos hds (x := .none) rfl (wpAny_bind (wpAny_field hos hds (x := .none) rfl (wpAny_bind (wpAny_field hos hds (x := vk) rfl (wpAny_pure ?_)))))))
  refine wpAny_bind (slicePart_ pk ?_)
  show wpAny _ _ (if ((-1 : Int) == 0) = true then _ else _) _ _ s
  rw [if_neg (by decide)]
  refine wpAny_bind (slicePart_none (wpAny_bind (slicePart_none (wpAny_bind (wpAny_pure ?_)))))
  show wpAny _ _ (match Builtin.Slice.sliceAdjust none none (-1) (n : Int) with | (lo, hi) => pure (lo, (-1 : Int), Builtin.Slice.slicePlaces lo hi (-1))) _ _ s
  rw [adjust_rev]
  show wpAny _ _ (pure ((n : Int) - 1, (-1 : Int), Builtin.Slice.slicePlaces ((n : Int) - 1) (-1) (-1))) _ _ s
  rw [places_rev]
  exact wpAny_pure h
theorem fm_congr {α β : Type} {f g : α → Option β} : ∀ {l : List α}, (∀ a ∈ l, f a = g a) → l.filterMap f = l.filterMap g
  | [], _ => rfl
  | a :: l, h => by rw [List.filterMap_cons, List.filterMap_cons, h a (.head _), fm_congr fun b hb => h b (.tail _ hb)]
theorem pick_rev (xs : Array Value) : ((List.range xs.size).filterMap fun (m : Nat) => xs[(((xs.size : Int) - 1) + (m : Int) * (-1)).toNat]?).toArray = xs.toList.reverse.toArray := by
  have e : ((List.range xs.size).filterMap fun (m : Nat) => xs[(((xs.size : Int) - 1) + (m : Int) * (-1)).toNat]?) = (List.range xs.size).filterMap fun m => xs.toList.reverse.toArray[m]? := by
    refine fm_congr fun m hm => ?_
    have hm' : m < xs.size := List.mem_range.mp hm
    have e1 : (((xs.size : Int) - 1) + (m : Int) * (-1)).toNat = xs.size - 1 - m := by omega
    rw [e1]
    simp only [List.getElem?_toArray]
    rw [List.getElem?_reverse (by simpa using hm')]
    simp
  rw [e]
  have h := pick_run xs.toList.reverse.toArray 0 xs.size
  rw [List.filterMap_map] at h
  have e2 : ((fun x => (xs.toList.reverse.toArray)[x]?) ∘ fun x => 0 + x) = fun m => xs.toList.reverse.toArray[m]? := by
    funext m
    simp
  rw [e2] at h
  rw [h]
  simp only [List.drop_zero]
  rw [List.take_of_length_le (by simp)]
theorem getItem_tuple_rev {t sl : Addr} {items : Array Value} {vk : Value} {Q : Value → Shared → Prop} (ht : IsTup s.heap t items) (hs : s.heap.IsSliceOf sl .none .none vk) (pk : IsPart vk (some (-1)))
    (h : Q (.ref s.heap.objs.size) { s with heap := s.heap.push { cls := .type "tuple", data := .seq items.toList.reverse.toArray } })
    (hsz : items.size ≤ sizeLine) : wpAny (model prog w) A (getItem (.ref t) (.ref sl)) Q E s := by
  have htake : sizeOk (.seq items.toList.reverse.toArray) := by
    show items.toList.reverse.toArray.size ≤ sizeLine
    simpa using hsz
  obtain ⟨os, hos, hcs, hds⟩ := id hs
  have hTs : s.TypeIs (.ref sl) "slice" := ⟨os, hos, hcs⟩
  unfold getItem
  try with_reducible refine wpAny_holding ?_
  first | refine wpAny_bind (wpAny_pure ?_) | skip
  refine wpAny_bind (wpAny_sequenceKey ht.typeIs (by decide) ?_)
  refine wpAny_bind (wpAny_callSpecial?_slot (name := Str.ofString "__getitem__") ht.typeIs PyProof.Rows.slot_tuple_getitem
    (wpAny_call_entry PyProof.Rows.slot_tuple_getitem ht.typeIs entry_tuple_getitem ?_ (args_tuple_getitem _ _)))
  show wpAny _ _ (Builtin.Tuple.tupleItemsOf (.ref t) >>= _) _ _ s
  refine wpAny_bind (tupleItemsOf_ ht ?_)
  refine wpAny_bind (wpAny_typeOf hTs ?_)
  rw [if_pos (by decide)]
  refine wpAny_bind (sliceApplied_rev hs pk ?_)
  have hno : ¬ ((((items.size : Int) - 1) == 0 && (-1 : Int) == 1 && items.size == items.size) = true) := by
    intro q
    rw [Bool.and_eq_true, Bool.and_eq_true] at q
    exact absurd q.1.2 (by decide)
  show wpAny _ _ (if (((items.size : Int) - 1) == 0 && (-1 : Int) == 1 && items.size == items.size) = true then _ else _) _ _ s
  rw [if_neg hno, pick_rev]
  first
    | exact wpAny_bind (m := Builtin.Tuple.tupleExact _) (wpAny_newObj_type (wpAny_pure ⟨_, rfl, wpAny_pure h⟩) htake)
    | exact wpAny_bind (m := Builtin.Tuple.tupleExact _) (wpAny_newObj_type (wpAny_bind (wpAny_pure (wpAny_pure ⟨_, rfl, wpAny_pure h⟩))) htake)
    | exact wpAny_bind (wpAny_bind (m := Builtin.Tuple.tupleExact _) (wpAny_newObj_type (wpAny_pure (wpAny_pure ⟨_, rfl, wpAny_pure h⟩)) htake))
    | exact wpAny_bind (wpAny_bind (m := Builtin.Tuple.tupleExact _) (wpAny_newObj_type (wpAny_pure ⟨_, rfl, wpAny_pure h⟩) htake))
end
theorem noI_tuple_add : typeLookup (.type "tuple") (dunderI "add") = pure none := by rw [typeLookup_type, builtinLookup_eq_fast]; kernel_rfl
section
variable {prog : Program} {w : World} {A : Around} {E : Value → Shared → Prop} {s : Shared}
theorem iconcat_meets {T id : String} {B : Builtin} {a b : Value} {S : _root_.PySem.Spec} {Q : Value → Shared → Prop} (ha : s.TypeIs a T) (hb : s.TypeIs b T) (hno : typeLookup (.type T) (dunderI "add") = pure none)
    (hfill : fillsNumberSlot (.type T) "add" = pure false) (hseq : seqSlot? (.type T) "__add__" = pure (some (.builtin id))) (slot : Slot T "__add__" id)
    (entry : entryFor table id = some B) (args : argsOk id ⟨[a, b], []⟩) (g : Meets (B ⟨[a, b], []⟩) S) (h : S A (wants Q E) s) : wpAny (model prog w) A (inplaceOp .Add a b) Q E s :=
  wpAny_inplaceOp_concat ha hb hno hfill hseq (call_meets slot ha entry args g h)
theorem icat_tup {t b : Addr} {vs ws : List Value} {Q : Value → Shared → Prop} (ht : IsTup s.heap t vs.toArray) (hb : IsTup s.heap b ws.toArray)
    (h0 : vs = [] → Q (.ref b) s) (h1 : vs ≠ [] → ws = [] → Q (.ref t) s) (h2 : vs ≠ [] → ws ≠ [] → Q (.ref s.heap.objs.size) { s with heap := s.heap.push { cls := .type "tuple", data := .seq (vs ++ ws).toArray } })
    (hsz : vs.length + ws.length ≤ sizeLine) : wpAny (model prog w) A (inplaceOp .Add (.ref t) (.ref b)) Q E s := by
  obtain ⟨⟨cls, dd, data, sl⟩, ho, hc, n, hd⟩ := id ht
  obtain ⟨⟨cls2, dd2, data2, sl2⟩, ho2, hc2, n2, hd2⟩ := id hb
  simp only at hc hd hc2 hd2
  subst hc hd hc2 hd2
  have e : vs.toArray ++ ws.toArray = (vs ++ ws).toArray := by simp
  by_cases hv : vs = []
  · exact iconcat_meets ⟨_, ho, rfl⟩ ⟨_, ho2, rfl⟩ noI_tuple_add noFill_tuple_add seq_tuple_add PySem.F.slot_tuple_add PySem.F.entry_tuple_add (PySem.F.args_tuple_add_2 _ _)
      (tuple_addW0 t b vs.toArray ws.toArray n n2 dd dd2 sl sl2 (by simp [hv])) ⟨ho, ho2, h0 hv⟩
  · by_cases hw : ws = []
    · exact iconcat_meets ⟨_, ho, rfl⟩ ⟨_, ho2, rfl⟩ noI_tuple_add noFill_tuple_add seq_tuple_add PySem.F.slot_tuple_add PySem.F.entry_tuple_add (PySem.F.args_tuple_add_2 _ _)
        (tuple_addW1 t b vs.toArray ws.toArray n n2 dd dd2 sl sl2 (by simpa using hv) (by simp [hw])) ⟨ho, ho2, h1 hv hw⟩
    · refine iconcat_meets ⟨_, ho, rfl⟩ ⟨_, ho2, rfl⟩ noI_tuple_add noFill_tuple_add seq_tuple_add PySem.F.slot_tuple_add PySem.F.entry_tuple_add (PySem.F.args_tuple_add_2 _ _)
        (tuple_addW2 t b vs.toArray ws.toArray n n2 dd dd2 sl sl2 (by simpa using hv) (by simpa using hw) (by rw [List.size_toArray, List.size_toArray]; exact hsz)) ⟨ho, ho2, ?_⟩
      rw [e]
      exact h2 hv hw
end
end HT
namespace Kw
open PySem PySem.Spec PyProof.Rows L2
/-- a list or a tuple backwards -/
def gRevS : D → Mem → Option D
  | .tup xs, _ => some (.tup xs.reverse)
  | x, μ => gRevL x μ
def rRevS (K : PySem.W.Frag) : V → Hp → VK → Prop := fun x H Q => ∃ a xs, x = .ref a ∧ ((SqL K H a xs ∧ ∀ p, H p = none → Q (.ref p) (upd H p (.lst xs.reverse))) ∨ (SqT K H a xs ∧ ∀ p, H p = none → Q (.ref p) (upd H p (.tup xs.reverse))))
section
variable {X : Cx} {S : SI} {W : WX} {e : Expr} {ma : EM} {pos : Pos}
theorem pe_revS1 {te : TE} {p3 : Pos} {st : Expr} (hst : PO X (some st) (fun _ H Q => Q (some (-1)) H)) (he : PE X e te) (hsu : ∀ a b, subscripted (.Slice none none (some st) p3) false (.ref a) (.ref b) = operate [.ref a, .ref b] (getItem (.ref a) (.ref b))) :
    PE X (.Subscript e (.Slice none none (some st) p3) pos) (fun σ H Q => te σ H fun x H1 => rRevS X.K x H1 Q) := by
  refine ⟨fun pins s σ H Q I h => ?_⟩
  refine Subscript_ (thn (he.run pins s σ H _ I h) fun v s1 ⟨x, H1, I1, r1, q1⟩ => ?_)
  obtain ⟨a, xs, ex, q⟩ := q1
  subst ex
  cases r1
  refine wpAny_Slice ?_
  rw [evalPart_none]
  refine wpAny_pure (wpAny_pure ?_)
  refine thn (hst.run pins s1 σ H1 (fun o H4 => o = some (-1) ∧ H4 = H1) I1 ⟨rfl, rfl⟩) fun vs s4 ⟨o, H4, I4, ps, eo, e4⟩ => ?_
  subst eo e4
  have I5 : Inv X pins σ H4 { s4 with heap := s4.heap.push { cls := .type "slice", data := .fields #[.none, .none, vs] } } := I4.kept (t' := s4.toks) fun b ob q => Heap.get?_push_of_some _ q
  rcases q with ⟨hx, q⟩ | ⟨hx, q⟩
  · obtain ⟨its, r, ht, hz⟩ := I5.list hx
    have hlen := r.length
    refine tail_any (ops := [.ref a, .ref s4.heap.objs.size]) ht.isList.typeIs (PySem.slot_list_getitem.lookup) ?_ (hsu _ _)
    refine wpAny_getItem_list_slice ht.isList (Heap.IsSliceOf.new _ .none .none vs) .none .none ps (by decide) ?_ (by rw [List.size_toArray]; omega)
    rw [PySem.W.krv_pick]
    refine ⟨.ref _, _, I5.laid (t' := s4.toks) (o := .lst xs.reverse) (fun b ob q => Heap.get?_push_of_some _ q) (Nat.le_refl _) ?_, rfl, q _ (I5.hok.fresh (Nat.le_refl _))⟩
    exact ⟨by rw [List.length_reverse]; exact hz, _, 0, r.reverse, Heap.get?_push_size _ rfl⟩
  · obtain ⟨its, r, ht, hz⟩ := I5.tuple hx
    have hlen : its.toArray.size = xs.length := by rw [List.size_toArray]; exact r.length.symm
    refine tail_any (ops := [.ref a, .ref s4.heap.objs.size]) ht.typeIs (PyProof.Rows.slot_tuple_getitem.lookup) ?_ (hsu _ _)
    refine HT.getItem_tuple_rev ht (Heap.IsSliceOf.new _ .none .none vs) ps ?_ (by rw [hlen]; exact hz)
    refine ⟨.ref _, _, I5.laid (t' := s4.toks) (o := .tup xs.reverse) (fun b ob q => Heap.get?_push_of_some _ q) (Nat.le_refl _) ?_, rfl, q _ (I5.hok.fresh (Nat.le_refl _))⟩
    exact ⟨by rw [List.length_reverse]; exact hz, _, r.reverse, IsTup.new _ _⟩
theorem po_neg2 {k : Nat} {p1 p2 : Pos} : PO X (some (.UnaryOp .USub (.Constant (.int 1) k p1) p2)) (fun _ H Q => Q (some (-1)) H) :=
  POi (po_some (pe_un un_neg pe_int)) fun σ H Q h => ⟨1, rfl, -1, rfl, h⟩
theorem revS_r {K : PySem.W.Frag} {mg : Str → Option Value} {T : List (Addr × Str)} {x : V} {H : Hp} {Q : VK} (h : rD1 K mg T gRevS x H Q) : rRevS K x H Q := by
  obtain ⟨w, μ, dx, d, r, rx, e, q⟩ := h
  unfold gRevS at e
  split at e
  · cases e
    obtain ⟨a, vs, rfl, h4, h5⟩ := tupOf_rel r rx rfl
    exact ⟨a, vs, rfl, .inr ⟨h4, q.tup r h5.reverse⟩⟩
  · unfold gRevL at e
    split at e
    · next xs hx =>
      cases e
      obtain ⟨a, vs, h1, h2, h3⟩ := lstOf_rel r rx hx
      exact ⟨a, vs, h1, .inl ⟨h2, q.lst r h3.reverse⟩⟩
    · cases e
theorem pe_revS' {k k' : Nat} {p1 p2 p3 p4 : Pos} (he : PE X e (TEm X S W ma)) : PE X (.Subscript e (.Slice none none (some (.BinOp (.Constant (.int 0) k p1) .Sub (.Constant (.int 1) k' p2) p3)) p4) pos) (TEm X S W <| e1 gRevS ma) :=
  pe_1 (r := rRevS X.K) (fun t ht => pe_revS1 po_neg1 ht (fun _ _ => by with_unfolding_all rfl)) (fun _ _ _ => revS_r) he
theorem pe_revS2' {k : Nat} {p1 p2 p4 : Pos} (he : PE X e (TEm X S W ma)) : PE X (.Subscript e (.Slice none none (some (.UnaryOp .USub (.Constant (.int 1) k p1) p2)) p4) pos) (TEm X S W <| e1 gRevS ma) :=
  pe_1 (r := rRevS X.K) (fun t ht => pe_revS1 po_neg2 ht (fun _ _ => by with_unfolding_all rfl)) (fun _ _ _ => revS_r) he
end
/-! ### t += u -/
theorem iop_catA {X : Cx} : OpR X (inplaceOp .Add) (rCatA X.K) := by
  intro pins s σ H x y v u Q I rx ry h
  obtain ⟨a, b, xs, ys, rfl, rfl, ha, hb, hz, q0, q1, q2⟩ := h
  cases rx
  cases ry
  obtain ⟨its, r1, p1, _⟩ := I.tuple ha
  obtain ⟨its2, r2, p2, _⟩ := I.tuple hb
  have l1 := r1.length
  have l2 := r2.length
  refine HT.icat_tup p1 p2 (fun e => ⟨.ref b, H, I, rfl, q0 (r1.nil_iff.mp e)⟩) (fun e1 e2 => ⟨.ref a, H, I, rfl, q1 (fun z => e1 (r1.nil_iff.mpr z)) (r2.nil_iff.mp e2)⟩) (fun e1 e2 => ?_) (by omega)
  refine ⟨.ref s.heap.objs.size, _, I.laid (t' := s.toks) (o := .tup (xs ++ ys)) (fun b ob q => Heap.get?_push_of_some _ q) (Nat.le_refl _) ?_, rfl, q2 (fun z => e1 (r1.nil_iff.mpr z)) (fun z => e2 (r2.nil_iff.mpr z)) _ (I.hok.fresh (Nat.le_refl _))⟩
  exact ⟨by rw [List.length_append]; omega, _, r1.append r2, IsTup.new _ _⟩
/-- i += j, t += u -/
def gAddJ : D → D → Mem → Option D
  | .int i, .int j, _ => some (.int (i + j))
  | .tup a, .tup b, _ => if a.length + b.length ≤ sizeLine then some (.tup (a ++ b)) else none
  | _, _, _ => none
theorem addJ_r {K : PySem.W.Frag} {mg : Str → Option Value} {T : List (Addr × Str)} {x y : V} {H : Hp} {Q : VK} (h : rD2 K mg T gAddJ x y H Q) : rI0 (fun i j => .int (i + j)) x y H Q ∨ rCatA K x y H Q := by
  obtain ⟨w, μ, dx, dy, d, r, rx, ry, e, q⟩ := h
  unfold gAddJ at e
  split at e
  · cases rx; cases ry; cases e
    exact .inl ⟨_, _, rfl, rfl, q.same r (.int _)⟩
  · split at e
    · next hl =>
      cases e
      obtain ⟨a, vs, rfl, h4, h5⟩ := tupOf_rel r rx rfl
      obtain ⟨b, us, rfl, h6, h7⟩ := tupOf_rel r ry rfl
      refine .inr ⟨a, b, vs, us, rfl, rfl, h4, h6, by rw [← h5.length, ← h7.length]; exact hl, fun e => ?_, fun _ e => ?_, fun _ _ => q.tup r (h5.append h7)⟩
      · subst e
        have := h5.length
        simp only [List.length_nil, List.length_eq_zero_iff] at this
        subst this
        exact q.same r ry
      · subst e
        have := h7.length
        simp only [List.length_nil, List.length_eq_zero_iff] at this
        subst this
        rw [List.append_nil] at q
        exact q.same r rx
    · cases e
  · cases e
@[simp] theorem gAddJ_int {i j : Int} {μ : Mem} : gAddJ (.int i) (.int j) μ = some (.int (i + j)) := nr rfl
theorem gAddJ_tup {a b : List D} {μ : Mem} (h : a.length + b.length ≤ 1000000) : gAddJ (.tup a) (.tup b) μ = some (.tup (a ++ b)) := if_pos (szN h)
theorem gAdd_tup {a b : List D} {μ : Mem} (h : a.length + b.length ≤ 1000000) : gAdd (.tup a) (.tup b) μ = some (.tup (a ++ b)) := if_pos (szN h)
@[simp] theorem gRevS_lst {a : List D} {μ : Mem} : gRevS (.lst a) μ = some (.lst a.reverse) := nr rfl
@[simp] theorem gRevS_tup {a : List D} {μ : Mem} : gRevS (.tup a) μ = some (.tup a.reverse) := nr rfl
/-! ### t * k, whatever k is -/
theorem tuple_mulE (l : Addr) (items : Array Value) (n : Nat) (dd : Option Addr) (sl : Array (Option Value)) (x : Int) (u : Tok) (c0 : (decide (x < -(2 ^ 63)) || decide (x ≥ 2 ^ 63)) = false) (c1 : (items.isEmpty || x == 1) = true) :
    Meets (Builtin.«tuple.__mul__» ⟨[.ref l, .int x u], []⟩) (fun _ R s => s.heap.get? l = some { cls := .type "tuple", dict := dd, data := .seq items n, slots := sl } ∧ R (.ok (.ret (Value.ref l))) s) :=
  .of_wp fun prog w A R s h => by
    obtain ⟨hp, g, d, tk, os⟩ := s
    obtain ⟨hl, h⟩ := h
    have f1 := AutoSeq1.idx_int
    wp_walk using wpAny_loadPart' hl
    repeat (first
      | (refine wpAny_ite_false (decide_eq_false (by rw [c0]; exact Bool.false_ne_true)) ?_; wp_walk using wpAny_loadPart' hl)
      | (refine wpAny_ite_true (decide_eq_true c1) ?_; wp_walk using wpAny_loadPart' hl))
    exact ⟨_, rfl, h⟩
theorem tuple_mul0 (l : Addr) (items : Array Value) (n : Nat) (dd : Option Addr) (sl : Array (Option Value)) (x : Int) (u : Tok) (c0 : (decide (x < -(2 ^ 63)) || decide (x ≥ 2 ^ 63)) = false) (c1 : (items.isEmpty || x == 1) = false) (c2 : (decide (x ≤ 0) || items.isEmpty) = true) :
    Meets (Builtin.«tuple.__mul__» ⟨[.ref l, .int x u], []⟩) (fun _ R s => s.heap.get? l = some { cls := .type "tuple", dict := dd, data := .seq items n, slots := sl } ∧ R (.ok (.ret (Value.ref s.heap.objs.size))) { s with heap := s.heap.push { cls := Value.type "tuple", data := Data.seq #[] }, toks := s.toks }) :=
  .of_wp fun prog w A R s h => by
    obtain ⟨hp, g, d, tk, os⟩ := s
    obtain ⟨hl, h⟩ := h
    have f1 := AutoSeq1.idx_int
    wp_walk using wpAny_loadPart' hl
    repeat (first
      | (refine wpAny_ite_false (decide_eq_false (by rw [c0]; exact Bool.false_ne_true)) ?_; wp_walk using wpAny_loadPart' hl)
      | (refine wpAny_ite_false (decide_eq_false (by rw [c1]; exact Bool.false_ne_true)) ?_; wp_walk using wpAny_loadPart' hl)
      | (refine wpAny_ite_true (decide_eq_true c2) ?_; wp_walk using wpAny_loadPart' hl))
    exact ⟨_, rfl, h⟩
def rRep0 (K : PySem.W.Frag) : R2 := fun x y H Q => ∃ l k xs, x = .ref l ∧ y = .int k ∧ SqT K H l xs ∧ -1000 ≤ k ∧ k ≤ 1000 ∧ (xs = [] → Q (.ref l) H) ∧ (xs ≠ [] → k ≤ 0 ∧ ∀ p, H p = none → Q (.ref p) (upd H p (.tup [])))
theorem op_rep0 {X : Cx} : OpR X (binaryOp .Mult) (rRep0 X.K) := by
  intro pins s σ H x y v u Q I rx ry h
  obtain ⟨l, k, xs, rfl, rfl, hT, h1, h2, q0, q1⟩ := h
  cases rx
  obtain ⟨t, rfl⟩ := ry
  obtain ⟨its, r, ⟨⟨cls, dd, data, sl⟩, ho, hc, n, hd⟩, hs⟩ := I.tuple hT
  simp only at hc hd
  subst hc hd
  have c0 : (decide (k < -(2 ^ 63)) || decide (k ≥ 2 ^ 63)) = false := by
    rw [decide_eq_false (by omega), decide_eq_false (by omega)] <;> rfl
  by_cases hx : xs = []
  · have he : its = [] := r.nil_iff.mpr hx
    refine wpAny_binaryOp_repeat_ref (T := "tuple") (U := "int") (by decide) ⟨_, ho, rfl⟩ (fun s' => typeIs_int s' k t) noFill_tuple_mul F.fills_int_mul F.slot_int_rmul repeat_tuple F.slot_int_index.lookup
      (call_meets F.slot_int_rmul (typeIs_int s k t) F.entry_int_rmul (F.args_int_rmul_2 _ _) (int_rmul_tuple k t l its.toArray n dd sl)
        ⟨ho, rfl, ⟨_, ho, rfl⟩, call_meets F.slot_tuple_mul ⟨_, ho, rfl⟩ F.entry_tuple_mul (F.args_tuple_mul_2 _ _) (tuple_mulE l its.toArray n dd sl k t c0 (by rw [he]; rfl)) ⟨ho, ?_⟩⟩)
    exact ⟨.ref l, H, I, rfl, q0 hx⟩
  · obtain ⟨hk, q⟩ := q1 hx
    have hne : its ≠ [] := fun e => hx (r.nil_iff.mp e)
    have hi : its.toArray.isEmpty = false := by
      cases its with
      | nil => exact absurd rfl hne
      | cons a b => rfl
    refine wpAny_binaryOp_repeat_ref (T := "tuple") (U := "int") (by decide) ⟨_, ho, rfl⟩ (fun s' => typeIs_int s' k t) noFill_tuple_mul F.fills_int_mul F.slot_int_rmul repeat_tuple F.slot_int_index.lookup
      (call_meets F.slot_int_rmul (typeIs_int s k t) F.entry_int_rmul (F.args_int_rmul_2 _ _) (int_rmul_tuple k t l its.toArray n dd sl)
        ⟨ho, rfl, ⟨_, ho, rfl⟩, call_meets F.slot_tuple_mul ⟨_, ho, rfl⟩ F.entry_tuple_mul (F.args_tuple_mul_2 _ _) (tuple_mul0 l its.toArray n dd sl k t c0 (by rw [hi, Bool.false_or]; exact beq_eq_false_iff_ne.mpr (by omega)) (by rw [decide_eq_true hk, Bool.true_or])) ⟨ho, ?_⟩⟩)
    refine ⟨.ref s.heap.objs.size, _, I.laid (t' := s.toks) (o := .tup []) (fun b ob q => Heap.get?_push_of_some _ q) (Nat.le_refl _) ?_, rfl, q _ (I.hok.fresh (Nat.le_refl _))⟩
    exact ⟨Nat.zero_le _, [], .nil, IsTup.new _ _⟩
def gRepA : D → D → Mem → Option D
  | .tup xs, .int k, μ => if xs = [] ∨ k ≤ 0 then (if -1000 ≤ k ∧ k ≤ 1000 then some (.tup []) else none) else gRep (.tup xs) (.int k) μ
  | x, y, μ => gRep x y μ
theorem repA_r {K : PySem.W.Frag} {mg : Str → Option Value} {T : List (Addr × Str)} {x y : V} {H : Hp} {Q : VK} (h : rD2 K mg T gRepA x y H Q) : rRep0 K x y H Q ∨ (rRep1 K x y H Q ∨ rRepT K x y H Q ∨ rRep x y H Q ∨ rRepS x y H Q) := by
  obtain ⟨w, μ, dx, dy, d, r, rx, ry, e, q⟩ := h
  unfold gRepA at e
  split at e
  · next xs k =>
    split at e
    · next hc =>
      split at e
      · next hk =>
        cases e
        cases ry
        obtain ⟨a, vs, rfl, h1, h2⟩ := tupOf_rel r rx rfl
        refine .inl ⟨a, k, vs, rfl, rfl, h1, hk.1, hk.2, fun hv => ?_, fun hv => ⟨hc.resolve_left fun z => hv ?_, q.tup r .nil⟩⟩
        · have : xs = [] := List.eq_nil_of_length_eq_zero (by rw [h2.length, hv]; rfl)
          subst this
          exact q.same r rx
        · subst z
          cases h2
          rfl
      · cases e
    · exact .inr (rep_r ⟨w, μ, _, _, d, r, rx, ry, e, q⟩)
  · exact .inr (rep_r ⟨w, μ, _, _, d, r, rx, ry, e, q⟩)
section
variable {X : Cx} {S : SI} {W : WX} {a b : Expr} {ma mb : EM} {pos : Pos}
theorem pe_repA' (ha : PE X a (TEm X S W ma)) (hb : PE X b (TEm X S W mb)) : PE X (.BinOp a .Mult b pos) (TEm X S W <| e2 gRepA ma mb) := pe_2 (fun t u => pe_op (op_rep0.or (op_rep1.or (op_repT.or (op_rep.or op_repS))))) (fun _ _ _ _ => repA_r) ha hb
end
theorem gRepA_run {xs : List D} {k : Int} {μ : Mem} (h1 : 0 ≤ k) (h2 : k ≤ 1000) (h3 : xs.length ≤ 1000) : gRepA (.tup xs) (.int k) μ = some (.tup (List.replicate k.toNat xs).flatten) := by
  unfold gRepA
  simp only
  split
  · next h =>
    rw [if_pos ⟨by omega, h2⟩]
    rcases h with h | h
    · subst h
      congr 2
      induction k.toNat with
      | zero => rfl
      | succ n ih => rw [List.replicate_succ, List.flatten_cons, ← ih]; rfl
    · have : k = 0 := by omega
      subst this
      rfl
  · next h =>
    have hx : xs ≠ [] := fun z => h (.inl z)
    have hk : ¬ k ≤ 0 := fun z => h (.inr z)
    exact if_pos ⟨by cases xs with
      | nil => exact absurd rfl hx
      | cons _ _ => simp, by omega, h2, h3⟩
/-! ### t < u, of ints -/
def gLtA : D → D → Mem → Option D
  | .int i, .int j, _ => some (.bl (decide (i < j)))
  | .tup xs, .tup ys, _ => match intsOf xs, intsOf ys with
    | some a, some b => some (.bl (HT.lexLt a b))
    | _, _ => none
  | _, _, _ => none
theorem ltA_r {K : PySem.W.Frag} {mg : Str → Option Value} {T : List (Addr × Str)} {x y : V} {H : Hp} {Q : VK} (h : rD2 K mg T gLtA x y H Q) : rI0 (fun i j => .bl (decide (i < j))) x y H Q ∨ rLtT K x y H Q := by
  obtain ⟨w, μ, dx, dy, d, r, rx, ry, e, q⟩ := h
  unfold gLtA at e
  split at e
  · cases rx; cases ry; cases e
    exact .inl ⟨_, _, rfl, rfl, q.same r (.bl _)⟩
  · split at e
    · next a b ha hb =>
      cases e
      obtain ⟨p, vs, rfl, h4, h5⟩ := tupOf_rel r rx rfl
      obtain ⟨p2, us, rfl, h6, h7⟩ := tupOf_rel r ry rfl
      have e1 := ints_r h5 ha
      have e2 := ints_r h7 hb
      subst e1 e2
      exact .inr ⟨p, p2, a, b, rfl, rfl, h4, h6, q.same r (.bl _)⟩
    · cases e
  · cases e
section
variable {X : Cx} {S : SI} {W : WX} {a b : Expr} {ma mb : EM} {pos : Pos}
theorem pe_ltA' (hu : X.A.units + 64 < cLine) (ha : PE X a (TEm X S W ma)) (hb : PE X b (TEm X S W mb)) : PE X (.Compare a [.Lt] [b] pos) (TEm X S W <| e2 gLtA ma mb) := pe_2 (fun t u ha hb => pe_cmpR (op_lt.or (op_ltT (by omega))) ha hb (nomark b)) (fun _ _ _ _ => ltA_r) ha hb
theorem pt_ltA' (hu : X.A.units + 64 < cLine) (ha : PE X a (TEm X S W ma)) (hb : PE X b (TEm X S W mb)) : PT X (.Compare a [.Lt] [b] pos) (TTm X S W <| tBl (e2 gLtA ma mb)) := pt_cmp2 (op_lt.or (op_ltT (by omega))) (nomark b) (fun _ _ _ _ => ltA_r) ha hb
end
@[simp] theorem gLtA_int {i j : Int} {μ : Mem} : gLtA (.int i) (.int j) μ = some (.bl (decide (i < j))) := nr rfl
theorem gLtA_tup {a b : List Int} {μ : Mem} : gLtA (.tup (a.map D.int)) (.tup (b.map D.int)) μ = some (.bl (HT.lexLt a b)) := by
  simp only [gLtA, intsOf_map]
/-! ### a, b, c = x, y, z -/
def sPar3 (i j l : Nat) (ma : AM) : SM := fun δ μ => (ma δ μ).bindS δ fun ds μ1 => match ds with
  | [a, b, c] => .nx (((δ.set i (some a)).set j (some b)).set l (some c)) μ1
  | _ => .stuck
@[simp] theorem sPar3_run {i j l : Nat} {ma : AM} {δ : Sv} {μ : Mem} : sPar3 i j l ma δ μ = (ma δ μ).bindS δ fun ds μ1 => match ds with
  | [a, b, c] => .nx (((δ.set i (some a)).set j (some b)).set l (some c)) μ1
  | _ => .stuck := nr rfl
theorem three2 {K : PySem.W.Frag} {mg : Str → Option Value} {w : Wd} {d e f : D} {vs : List V} (r : RelDs K mg w [d, e, f] vs) : ∃ x y z, vs = [x, y, z] ∧ RelD K mg w d x ∧ RelD K mg w e y ∧ RelD K mg w f z := by
  cases r with
  | cons r1 r => cases r with
    | cons r2 r => cases r with
      | cons r3 r => cases r; exact ⟨_, _, _, rfl, r1, r2, r3⟩
section
variable {X : Cx} {S : SI} {W : WX} {i j l : Nat} {x y z : Str} {a b c : Expr} {mr : AM} {pos : Pos}
theorem ps_par3' {px py pz pt : Pos} {kt k2 pt2} (hc : X.calm = true) (hN : X.N.Nodup) (hi : X.N[i]? = some x) (hj : X.N[j]? = some y) (hl : X.N[l]? = some z) (hij : i ≠ j) (hil : i ≠ l) (hjl : j ≠ l)
    (hx : X.env.scope.names.lookup x = some .local) (hy : X.env.scope.names.lookup y = some .local) (hz : X.env.scope.names.lookup z = some .local) (ha : PA X [a, b, c] (TAm X S W mr))
    (hw : swappedStores [.Tuple [.Name x px, .Name y py, .Name z pz] kt pt] (.Tuple [a, b, c] k2 pt2) X.env = pure (some [x, y, z]))
    (hs : swapsWithSole [.Tuple [.Name x px, .Name y py, .Name z pz] kt pt] (.Tuple [a, b, c] k2 pt2) pos.line X.env = pure false := by rfl) :
    PS X (.Assign [.Tuple [.Name x px, .Name y py, .Name z pz] kt pt] (.Tuple [a, b, c] k2 pt2) pos) (TSm X S W <| sPar3 i j l mr) :=
  PSi (ps_par3 hc hN hi hj hl hij hil hjl hx hy hz ha hw hs) fun D σ H ⟨w, δ, μ, rs, rm, h⟩ => ⟨w, δ, μ, (At.bindS rs rm h).mono fun v H1 ⟨w1, μ1, d, le, rd, rs1, rm1, q⟩ => by
    split at q
    · obtain ⟨v1, v2, v3, rfl, r1, r2, r3⟩ := three2 rd
      exact ⟨v1, v2, v3, rfl, q w1 _ H1 (Wd.Le.refl _) rm1 (((rs1.set i r1).set j r2).set l r3)⟩
    · exact q.elim⟩
end
theorem GlD.str {K : PySem.W.Frag} {mg : Str → Option Value} {x z : Str} (h : ∃ t, mg x = some (.str z t)) : GlD K mg x (.str z) := by
  obtain ⟨t, h⟩ := h
  exact ⟨.str z, _, h, ⟨t, rfl⟩, fun w => .str z⟩
theorem u64m {k : Nat} {A : Around} {h : Option Value} (r : Room k A) : (A.mark h).units + 64 < cLine := by
  have := r.un
  show A.units + 64 < _
  omega
theorem u65m {k : Nat} {A : Around} {h : Option Value} (r : Room k A) : (A.mark h).units + 65 < cLine := by
  have := r.un
  show A.units + 65 < _
  omega
end Kw

set_option Elab.async false
set_option linter.all false
set_option maxRecDepth 100000
/-! lists of lists that changed: from here on nothing of them changes any more -/
namespace Kw
open PySem PySem.Spec PyProof.Rows L2
def thawL (f : D → Option D) : List D → Option (List D)
  | [] => some []
  | d :: ds => match f d, thawL f ds with
    | some p, some ps => some (p :: ps)
    | _, _ => none
/-- what d is, places followed -/
def thawD (μ : Mem) : Nat → D → Option D
  | 0, _ => none
  | n + 1, d => match d with
    | .loc l => match μ[l]? with
      | some (.lst xs) => (thawL (thawD μ n) xs).map .lst
      | _ => none
    | .tup xs => (thawL (thawD μ n) xs).map .tup
    | .lst xs => (thawL (thawD μ n) xs).map .lst
    | d => some d
/-- the places in d -/
def reachD (μ : Mem) : Nat → D → List Nat
  | 0, _ => []
  | n + 1, d => match d with
    | .loc l => l :: (match μ[l]? with
      | some (.lst xs) => xs.flatMap (reachD μ n)
      | _ => [])
    | .tup xs => xs.flatMap (reachD μ n)
    | .lst xs => xs.flatMap (reachD μ n)
    | _ => []
def gone1 (k : Nat) (μ : Mem) : Mem := match μ[k]? with
  | some (.lst _) => μ.set k .gone
  | _ => μ
def goneL (ks : List Nat) (μ : Mem) : Mem := ks.foldl (fun μ k => gone1 k μ) μ
def canThw : D → Bool
  | .loc _ => true
  | .tup _ => true
  | .lst _ => true
  | _ => false
def sThw (i : Nat) : SM := fun δ μ => match δ[i]? with
  | some (some d) => if canThw d = true then (match thawD μ 5 d with
    | some d' => .nx (δ.set i (some d')) (goneL (reachD μ 5 d) μ)
    | none => .stuck) else .nx δ μ
  | _ => .nx δ μ
section
variable {K : PySem.W.Frag} {mg : Str → Option Value} {T : List (Addr × Str)} {w : Wd} {μ : Mem} {H : Hp}
theorem RelM.goneL : ∀ (ks : List Nat) {w : Wd} {μ : Mem}, RelM K mg T w μ H → ∃ w', w.Le w' ∧ RelM K mg T w' (Kw.goneL ks μ) H ∧ ∀ k ∈ ks, ∀ xs, μ[k]? = some (.lst xs) → ∃ vs, w'.φ (w.ρ k) = some (.lst vs) ∧ RelDs K mg w' xs vs
  | [], w, μ, r => ⟨w, .refl w, r, fun _ h => nomatch h⟩
  | k :: ks, w, μ, r => by
    show ∃ w', w.Le w' ∧ RelM K mg T w' (Kw.goneL ks (gone1 k μ)) H ∧ _
    cases hk : μ[k]? with
    | some b =>
      by_cases hb : ∃ xs, b = .lst xs
      · obtain ⟨xs, rfl⟩ := hb
        obtain ⟨vs, h1, h2⟩ := r.lst hk
        obtain ⟨le1, r1⟩ := r.freeze hk nofun h1
        have hlt : k < μ.length := (List.getElem?_eq_some_iff.mp hk).1
        have e1 : gone1 k μ = μ.set k .gone := by unfold gone1; rw [hk]
        rw [e1]
        obtain ⟨w', le2, r2, h3⟩ := RelM.goneL ks r1
        refine ⟨w', le1.trans le2, r2, fun j hj ys hy => ?_⟩
        by_cases c : k = j
        · subst c
          rw [hk] at hy
          cases hy
          exact ⟨vs, le2.φ _ _ upd_same, (h2.mono le1).mono le2⟩
        · rcases List.mem_cons.mp hj with q | q
          · exact absurd q.symm c
          · exact h3 j q ys (by rw [List.getElem?_set_ne c]; exact hy)
      · have e1 : gone1 k μ = μ := by
          unfold gone1
          rw [hk]
          cases b with
          | lst xs => exact absurd ⟨xs, rfl⟩ hb
          | _ => rfl
        rw [e1]
        obtain ⟨w', le2, r2, h3⟩ := RelM.goneL ks r
        refine ⟨w', le2, r2, fun j hj ys hy => ?_⟩
        rcases List.mem_cons.mp hj with q | q
        · subst q
          rw [hk] at hy
          exact absurd ⟨ys, Option.some.inj hy⟩ hb
        · exact h3 j q ys hy
    | none =>
      have e1 : gone1 k μ = μ := by unfold gone1; rw [hk]
      rw [e1]
      obtain ⟨w', le2, r2, h3⟩ := RelM.goneL ks r
      refine ⟨w', le2, r2, fun j hj ys hy => ?_⟩
      rcases List.mem_cons.mp hj with q | q
      · subst q
        rw [hk] at hy
        cases hy
      · exact h3 j q ys hy
theorem thawL_rel {f : D → Option D} {w' : Wd} : ∀ {xs ys : List D} {vs : List V}, (∀ x ∈ xs, ∀ y v, f x = some y → RelD K mg w' x v → RelD K mg w' y v) → thawL f xs = some ys → RelDs K mg w' xs vs → RelDs K mg w' ys vs
  | [], _, _, _, e, r => by cases e; exact r
  | x :: xs, ys, vs, h, e, r => by
    unfold thawL at e
    split at e
    · next p ps e1 e2 =>
      cases e
      cases r with
      | cons r1 r2 => exact .cons (h x (.head _) _ _ e1 r1) (thawL_rel (fun z hz => h z (.tail _ hz)) e2 r2)
    · cases e
theorem thawD_rel {w' : Wd} (hn : μ.length ≤ w'.n) : ∀ (n : Nat) (d d' : D) (v : V), (∀ k ∈ reachD μ n d, ∀ xs, μ[k]? = some (.lst xs) → ∃ vs, w'.φ (w'.ρ k) = some (.lst vs) ∧ RelDs K mg w' xs vs) → thawD μ n d = some d' → RelD K mg w' d v → RelD K mg w' d' v
  | 0, _, _, _, _, e, _ => by cases e
  | n + 1, d, d', v, h, e, r => by
    unfold thawD at e
    unfold reachD at h
    split at e
    · next l =>
      split at e
      · next xs hx =>
        obtain ⟨ys, hy, rfl⟩ := Option.map_eq_some_iff.mp e
        cases r with
        | loc hl =>
          simp only [hx] at h
          obtain ⟨vs, h1, h2⟩ := h l (.head _) xs hx
          exact .lst h1 (thawL_rel (fun x hm y v ey ry => thawD_rel hn n x y v (fun k hk => h k (.tail _ (List.mem_flatMap.mpr ⟨x, hm, hk⟩))) ey ry) hy h2)
      · cases e
    · next xs =>
      obtain ⟨ys, hy, rfl⟩ := Option.map_eq_some_iff.mp e
      cases r with
      | tup h1 h2 => exact .tup h1 (thawL_rel (fun x hm y v ey ry => thawD_rel hn n x y v (fun k hk => h k (List.mem_flatMap.mpr ⟨x, hm, hk⟩)) ey ry) hy h2)
    · next xs =>
      obtain ⟨ys, hy, rfl⟩ := Option.map_eq_some_iff.mp e
      cases r with
      | lst h1 h2 => exact .lst h1 (thawL_rel (fun x hm y v ey ry => thawD_rel hn n x y v (fun k hk => h k (List.mem_flatMap.mpr ⟨x, hm, hk⟩)) ey ry) hy h2)
    · cases e
      exact r
end
section
variable {X : Cx} {S : SI} {W : WX} {sts : List Stmt} {m : SM}
theorem tS_thw {E : Ends} {σ : L2.St} {H : Hp} {i : Nat} (h : TSm X S W (sSeq (sThw i) m) E σ H) : TSm X S W m E σ H := by
  obtain ⟨w, δ, μ, rs, rm, h⟩ := h
  unfold sSeq sThw at h
  split at h
  · next d hd =>
    split at h
    · next hc =>
      split at h
      · next d' e =>
        obtain ⟨w', le, rm', hk⟩ := RelM.goneL (reachD μ 5 d) rm
        obtain ⟨v, hv, rv⟩ := rs.2 i _ hd
        have rd : RelD X.K X.mg w d v := by
          cases d <;> first | exact rv | cases hc
        have rd' : RelD X.K X.mg w' d' v := thawD_rel (μ := μ) (by rw [← rm.n]; exact le.n) 5 d d' v (fun k hk' xs hx => by
          obtain ⟨vs, h1, h2⟩ := hk k hk' xs hx
          have hlt : k < w.n := by rw [rm.n]; exact (List.getElem?_eq_some_iff.mp hx).1
          exact ⟨vs, by rw [le.ρ k hlt]; exact h1, h2⟩) e (rd.mono le)
        refine ⟨w', _, _, ?_, rm', STo.mono le h⟩
        have := (rs.mono le).set i rd'
        rwa [show σ.set i (some v) = σ from by
          refine List.ext_getElem? fun j => ?_
          by_cases e : i = j
          · subst e; rw [List.getElem?_set_self (by have := (List.getElem?_eq_some_iff.mp hv).1; exact this), hv]
          · rw [List.getElem?_set_ne e]] at this
      · exact h.elim
    · exact ⟨w, δ, μ, rs, rm, h⟩
  · exact ⟨w, δ, μ, rs, rm, h⟩
theorem pss_thw (i : Nat) (h : PSs X sts (TSm X S W m)) : PSs X sts (TSm X S W <| sSeq (sThw i) m) := PSsi h fun D σ H q => tS_thw q
end
end Kw

set_option Elab.async false
set_option linter.all false
set_option maxRecDepth 100000
set_option maxHeartbeats 2000000
/-! sum(xs, ()): tuples joined -/
namespace HT
open PySem PySem.Spec PyProof.Rows
def accT (tv : Nat → List Value) (i : Nat) : List Value := ((List.range i).map tv).flatten
theorem accT_succ (tv : Nat → List Value) (i : Nat) : accT tv (i + 1) = accT tv i ++ tv i := by
  unfold accT
  rw [List.range_succ, List.map_append, List.flatten_append]
  simp
section
variable {prog : Program} {w : World} {A : Around} {E : Value → Shared → Prop} {s : Shared}
theorem cat_any {t b : Addr} {vs ws : List Value} {Q : Value → Shared → Prop} (ht : IsTup s.heap t vs.toArray) (hb : IsTup s.heap b ws.toArray)
    (h : ∀ c h', (∀ x o, s.heap.get? x = some o → h'.get? x = some o) → IsTup h' c (vs ++ ws).toArray → ((vs = [] ∧ c = b) ∨ (ws = [] ∧ c = t) ∨ c = s.heap.objs.size) → Q (.ref c) { s with heap := h' })
    (hsz : vs.length + ws.length ≤ sizeLine) : wpAny (model prog w) A (binaryOp .Add (.ref t) (.ref b)) Q E s := by
  by_cases hv : vs = []
  · subst hv
    exact L2.cat_tup0 ht hb (h b s.heap (fun _ _ e => e) (by rw [List.nil_append]; exact hb) (.inl ⟨rfl, rfl⟩))
  · refine cat_tup ht hb hv (fun e => ?_) (fun e => ?_) hsz
    · exact h t s.heap (fun _ _ e => e) (by rw [e, List.append_nil]; exact ht) (.inr (.inl ⟨e, rfl⟩))
    · exact h _ _ (fun x o q => Heap.get?_push_of_some _ q) (IsTup.new _ _) (.inr (.inr rfl))
theorem tup_keep {h h' : Heap} {t : Addr} {xs : Array Value} (ht : IsTup h t xs) (k : ∀ o, h.get? t = some o → h'.get? t = some o) : IsTup h' t xs := by
  obtain ⟨o, ho, hc, n, hd⟩ := ht
  exact ⟨o, k o ho, hc, n, hd⟩
end
section
variable {prog : Program} {w : World} {A : Around} {R : Result → Shared → Prop} {I l S b0 : Addr} {items : Array Value} {tv : Nat → List Value}
/-- where the sum lies -/
def Org (items : Array Value) (tv : Nat → List Value) (S b0 tot : Addr) (acc : List Value) : Prop := (tot = b0 ∧ acc = []) ∨ (∃ j, items[j]? = some (.ref tot) ∧ acc = tv j) ∨ S < tot
theorem sum_loop_tup (hh : A.handled = none) (hI : I < S) (hl : l < S) (hne : l ≠ I) (hb0 : b0 ≠ I ∧ b0 < S) (hz : (accT tv items.size).length ≤ sizeLine) (hit : ∀ (j : Nat) (v : Value), items[j]? = some v → ∃ a, v = .ref a ∧ a ≠ I ∧ a < S) :
    ∀ (k i : Nat) (s : Shared) (tot : Addr) (c : Nat), items.size - i = k → i ≤ items.size → s.heap.IsListIter I l i ∧ s.heap.IsList l items → s.heap.get? S = some { cls := .type "list", dict := none, data := .seq #[.ref tot] c, slots := #[] } →
    IsTup s.heap tot (accT tv i).toArray → tot ≠ I → tot ≠ S → Org items tv S b0 tot (accT tv i) → (∀ (j : Nat) (a : Addr), items[j]? = some (.ref a) → IsTup s.heap a (tv j).toArray) →
    (∀ h' tk tot', (∀ b o, b ≠ I → b ≠ S → s.heap.get? b = some o → h'.get? b = some o) → IsTup h' tot' (accT tv items.size).toArray → Org items tv S b0 tot' (accT tv items.size) → R (.ok (.ret (.ref tot'))) { s with heap := h', toks := tk }) →
    codeAny (model prog w) A (.builtin "sum.loop" ⟨[.ref I, .ref S, rawInt 2, rawInt 0], []⟩) R s := by
  have W := Walks.list (prog := prog) (w := w) (A := A.in1) hh I l hne items
  intro k
  induction k with
  | zero =>
    intro i s tot c hk hi hst hS ht hn1 hn2 ho hel hR
    have hin : i = items.size := by omega
    subst hin
    refine codeAny_builtin F.entry_sum_loop ?_
    rw [Around.under_plainId F.plain_sum_loop _]
    show wpAny _ A.in1 (seqItems? (.ref S) >>= _) _ _ s
    refine wpAny_bind (wpAny_seqItems hS rfl ?_)
    show wpAny _ A.in1 (tryCatch (pyNext (.ref I)) _ >>= _) _ _ s
    refine wpAny_bind (wpAny_tryCatch (W.done s _ _ hst fun h' tk hm => ?_))
    have hm' : ∀ b o, b ≠ I → s.heap.get? b = some o → h'.get? b = some o := fun b o hb e => hm b o (by simpa using hb) e
    exact wpAny_pure (hR h' tk tot (fun b o h1 _ e => hm' b o h1 e) (tup_keep ht fun o e => hm' tot o hn1 e) ho)
  | succ k ih =>
    intro i s tot c hk hi hst hS ht hn1 hn2 ho hel hR
    have hlt : i < items.size := by omega
    refine codeAny_builtin F.entry_sum_loop ?_
    rw [Around.under_plainId F.plain_sum_loop _]
    show wpAny _ A.in1 (seqItems? (.ref S) >>= _) _ _ s
    refine wpAny_bind (wpAny_seqItems hS rfl ?_)
    show wpAny _ A.in1 (tryCatch (pyNext (.ref I)) _ >>= _) _ _ s
    refine wpAny_bind (wpAny_tryCatch (W.item i s _ _ hlt hst fun v h1 tk1 hP hst1 hm => ?_))
    have hm' : ∀ b o, b ≠ I → s.heap.get? b = some o → h1.get? b = some o := fun b o hb e => hm b o (by simpa using hb) e
    obtain ⟨a, rfl, ha1, ha2⟩ := hit i v hP
    have hS1 := hm' S _ (Nat.ne_of_gt hI) hS
    have ht1 := tup_keep ht fun o e => hm' tot o hn1 e
    have ha := tup_keep (hel i a hP) fun o e => hm' a o ha1 e
    have hlen : (accT tv i).length + (tv i).length ≤ sizeLine := by
      have e : (accT tv (i + 1)).length = (accT tv i).length + (tv i).length := by rw [accT_succ, List.length_append]
      have mono : ∀ m, (accT tv (i + 1)).length ≤ (accT tv (i + 1 + m)).length := fun m => by
        induction m with
        | zero => exact Nat.le_refl _
        | succ m ihm =>
          have : accT tv (i + 1 + (m + 1)) = accT tv (i + 1 + m) ++ tv (i + 1 + m) := accT_succ tv (i + 1 + m)
          rw [this, List.length_append]
          omega
      have := mono (items.size - (i + 1))
      have e2 : i + 1 + (items.size - (i + 1)) = items.size := by omega
      rw [e2] at this
      omega
    show wpAny _ A.in1 ((holding [Value.ref a] (binaryOp .Add (.ref tot) (.ref a))).attempt >>= _) _ _ _
    refine wpAny_bind (wpAny_attempt (wpAny_holding (cat_any ht1 ha (fun r h2 hk2 hr hor => ?_) hlen)))
    have hS2 := hk2 S _ hS1
    have hSr : r ≠ S ∧ r ≠ I ∧ Org items tv S b0 r (accT tv (i + 1)) := by
      rcases hor with ⟨e, rfl⟩ | ⟨e, rfl⟩ | e
      · refine ⟨Nat.ne_of_lt ha2, ha1, .inr (.inl ⟨i, hP, ?_⟩)⟩
        rw [accT_succ, e, List.nil_append]
      · refine ⟨hn2, hn1, ?_⟩
        rw [accT_succ, e, List.append_nil]
        exact ho
      · have : S < r := by
          rw [e]
          exact Heap.lt_size hS1
        exact ⟨Nat.ne_of_gt this, Nat.ne_of_gt (Nat.lt_trans hI this), .inr (.inr this)⟩
    show wpAny _ A.in1 (updateSeq S (fun _ => #[Value.ref r]) >>= _) _ _ _
    refine wpAny_bind (wpAny_updateSeq hS2 rfl ?_)
    have hS3 := Heap.get?_update_self (Obj.mapSeq fun _ => #[Value.ref r]) hS2 rfl
    refine wpAny_bind (wpAny_letGo ?_)
    refine wpAny_bind (wpAny_updateSeq hS3 rfl (wpAny_pure ⟨plainId_quiet F.plain_sum_loop _, ih (i + 1) _ r _ (by omega) hlt (W.frame _ _ _ hst1 fun b hb o e => ?_) (Heap.get?_update_self _ hS3 rfl) ?_ hSr.2.1 hSr.1 hSr.2.2 (fun j a' hj => ?_) fun h' tk tot' hk' ht' ho' => ?_⟩))
    · have hbS : S ≠ b := by
        have : b = I ∨ b = l := by simpa using hb
        rcases this with q | q <;> rw [q]
        · exact Nat.ne_of_gt hI
        · exact Nat.ne_of_gt hl
      exact (Heap.get?_update_other _ _ hbS).trans ((Heap.get?_update_other _ _ hbS).trans (hk2 b o e))
    · rw [accT_succ]
      exact tup_keep hr fun o e => (Heap.get?_update_other _ _ (Ne.symm hSr.1)).trans ((Heap.get?_update_other _ _ (Ne.symm hSr.1)).trans e)
    · obtain ⟨a2, ea, hx1, hx2⟩ := hit j _ hj
      cases ea
      have hne2 : S ≠ a' := Nat.ne_of_gt hx2
      exact tup_keep (hel j a' hj) fun o e => (Heap.get?_update_other _ _ hne2).trans ((Heap.get?_update_other _ _ hne2).trans (hk2 a' o (hm' a' o hx1 e)))
    · exact hR h' tk tot' (fun b o q1 q2 e => hk' b o q1 q2 ((Heap.get?_update_other _ _ (Ne.symm q2)).trans ((Heap.get?_update_other _ _ (Ne.symm q2)).trans (hk2 b o (hm' b o q1 e))))) ht' ho'
end
theorem args_sum2 (a b : Value) : argsOk "sum" ⟨[a, b], []⟩ := by unfold argsOk; kernel_rfl
section
variable {prog : Program} {w : World} {A : Around} {E : Value → Shared → Prop} {s : Shared} {l b0 : Addr} {items : Array Value} {tv : Nat → List Value}
theorem sum_tup_raw {Q : Value → Shared → Prop} (hh : A.handled = none) (hl : s.heap.IsList l items) (hb : IsTup s.heap b0 ([] : List Value).toArray) (hit : ∀ (j : Nat) (v : Value), items[j]? = some v → ∃ a, v = .ref a ∧ IsTup s.heap a (tv j).toArray) (hz : (accT tv items.size).length ≤ sizeLine)
    (h : ∀ h' tk c, (∀ b o, s.heap.get? b = some o → h'.get? b = some o) → IsTup h' c (accT tv items.size).toArray → ((c = b0 ∧ accT tv items.size = []) ∨ (∃ j, items[j]? = some (.ref c) ∧ accT tv items.size = tv j) ∨ s.heap.objs.size ≤ c) → Q (.ref c) { s with heap := h', toks := tk }) :
    wpAny (model prog w) A (call (.builtin "sum") [.ref l, .ref b0]) Q E s := by
  obtain ⟨ob, hob, _⟩ := id hb
  obtain ⟨ol, hol, _⟩ := id hl
  have lb : b0 < s.heap.objs.size := Heap.lt_size hob
  have ll : l < s.heap.objs.size := Heap.lt_size hol
  refine call_function_tree F.kind_sum F.plain_sum F.entry_sum (args_sum2 _ _) ?_
  unfold Builtin.«sum»
  simp only [List.length_cons, List.length_nil]
  rw [if_neg (by decide)]
  refine wpAny_bind (wpAny_of_eq (show Builtin.Builtins.bindParams "sum" ["start"] 0 ⟨[.ref b0], []⟩ = pure [some (.ref b0)] from rfl) ?_)
  refine wpAny_bind (wpAny_pyIter_list hl ?_)
  refine wpAny_bind (wpAny_pure ?_)
  have hbT := hb.typeIs
  have hb1 : Shared.TypeIs { s with heap := s.heap.push { cls := .type "list_iterator", data := .fields #[.ref l, .int 0 0] } } (.ref b0) "tuple" := (tup_keep (h' := s.heap.push { cls := .type "list_iterator", data := .fields #[.ref l, .int 0 0] }) hb fun o e => Heap.get?_push_of_some _ e).typeIs
  simp only [List.forIn_cons, List.forIn_nil]
  refine wpAny_bind (wpAny_bind (wpAny_bind (wpAny_isInstance (T := "tuple") (b := false) hb1 F.sub_tuple_str ?_)))
  simp only [Bool.false_eq_true, if_false]
  refine wpAny_pure (wpAny_bind (wpAny_bind (wpAny_isInstance (T := "tuple") (b := false) hb1 F.sub_tuple_bytes ?_)))
  simp only [Bool.false_eq_true, if_false]
  refine wpAny_pure (wpAny_bind (wpAny_bind (wpAny_isInstance (T := "tuple") (b := false) hb1 F.sub_tuple_bytearray ?_)))
  simp only [Bool.false_eq_true, if_false]
  refine wpAny_pure (wpAny_pure ?_)
  refine wpAny_bind (wpAny_newObj_type ?_)
  have k2 : ∀ (b : Addr) (o : Obj), s.heap.get? b = some o → ((s.heap.push { cls := .type "list_iterator", data := .fields #[.ref l, .int 0 0] }).push { cls := .type "list", data := .seq #[.ref b0] }).get? b = some o := fun b o e => Heap.get?_push_of_some _ (Heap.get?_push_of_some _ e)
  have sz1 : (s.heap.push { cls := .type "list_iterator", data := .fields #[.ref l, .int 0 0] }).objs.size = s.heap.objs.size + 1 := Heap.size_push ..
  refine wpAny_pure ⟨plainId_quiet F.plain_sum_loop _, sum_loop_tup (I := s.heap.objs.size) (l := l) (S := (s.heap.push { cls := .type "list_iterator", data := .fields #[.ref l, .int 0 0] }).objs.size) (b0 := b0) (items := items) (tv := tv) hh (by rw [sz1]; exact Nat.lt_succ_self _) (by rw [sz1]; exact Nat.lt_succ_of_lt ll) (Nat.ne_of_lt ll) ⟨Nat.ne_of_lt lb, by rw [sz1]; exact Nat.lt_succ_of_lt lb⟩ hz (fun j v hv => ?_) items.size 0 _ b0 0 (by omega) (Nat.zero_le _) ⟨⟨_, Heap.get?_push_of_some _ (Heap.get?_push_size _ rfl), rfl, rfl⟩, ?_⟩ (Heap.get?_push_size _ rfl) (tup_keep hb fun o e => k2 b0 o e) (Nat.ne_of_lt lb) (by rw [sz1]; exact Nat.ne_of_lt (Nat.lt_succ_of_lt lb)) (.inl ⟨rfl, rfl⟩) (fun j a hj => ?_) fun h' tk tot' hk ht ho => ?_⟩
  · obtain ⟨a, rfl, ha⟩ := hit j v hv
    obtain ⟨oa, hoa, _⟩ := id ha
    have := Heap.lt_size hoa
    exact ⟨a, rfl, Nat.ne_of_lt this, by rw [sz1]; exact Nat.lt_succ_of_lt this⟩
  · exact (hl.push _).push _
  · obtain ⟨a', ea, ha⟩ := hit j _ hj
    cases ea
    exact tup_keep ha fun o e => k2 a o e
  · refine h h' tk tot' (fun b o e => ?_) ht ?_
    · have hb' := Heap.lt_size e
      exact hk b o (Nat.ne_of_lt hb') (by rw [sz1]; exact Nat.ne_of_lt (Nat.lt_succ_of_lt hb')) (k2 b o e)
    · rcases ho with q | q | q
      · exact .inl q
      · exact .inr (.inl q)
      · rw [sz1] at q
        exact .inr (.inr (Nat.le_of_lt (Nat.lt_of_succ_lt q)))
end
end HT
namespace Kw
open PySem PySem.Spec PyProof.Rows L2
def rSumT (K : PySem.W.Frag) : List V → Hp → VK → Prop := fun vs H Q => ∃ (a b : Addr) (cs : List (Addr × List V)), vs = [.ref a, .ref b] ∧ SqL K H a (cs.map fun p => .ref p.1) ∧ SqT K H b [] ∧ (∀ p ∈ cs, SqT K H p.1 p.2) ∧ (cs.map (·.2)).flatten.length ≤ sizeLine ∧
  ((cs.map (·.2)).flatten = [] → Q (.ref b) H) ∧ (∀ p ∈ cs, p.2 = (cs.map (·.2)).flatten → Q (.ref p.1) H) ∧ ∀ p, H p = none → Q (.ref p) (upd H p (.tup (cs.map (·.2)).flatten))
theorem Vals.ref2 {a b : Addr} {us : List Value} (r : Vals [V.ref a, V.ref b] us) : us = [Value.ref a, Value.ref b] := by
  cases r with
  | cons r t =>
    cases r
    rw [Vals.ref1 t]
theorem vals_acc {tv : Nat → List Value} {cs : List (Addr × List V)} (h : ∀ j p, cs[j]? = some p → Vals p.2 (tv j)) : ∀ i, i ≤ cs.length → Vals ((cs.take i).map (·.2)).flatten (HT.accT tv i)
  | 0, _ => by
    rw [List.take_zero]
    exact .nil
  | i + 1, hi => by
    have ih := vals_acc h i (by omega)
    rw [HT.accT_succ, List.take_succ, List.getElem?_eq_getElem (by omega)]
    simp only [Option.toList_some, List.map_append, List.map_cons, List.map_nil, List.flatten_append, List.flatten_cons, List.flatten_nil, List.append_nil]
    exact ih.append (h i _ (List.getElem?_eq_getElem (by omega)))
theorem cr_sumT {X : Cx} (hc : X.calm = true) : CallR X (.builtin "sum") (rSumT X.K) := by
  intro pins s σ H vs us Q I r h
  obtain ⟨a, b, cs, rfl, hs, hb, ht, hz, q0, q1, q2⟩ := h
  obtain ⟨its, rv, hl, _⟩ := I.list hs
  obtain ⟨bs, rb, hbt, _⟩ := I.tuple hb
  have ebs : bs = [] := by
    have := rb.length
    exact List.eq_nil_of_length_eq_zero this.symm
  subst ebs
  rw [Vals.ref2 r]
  have lcs : its.length = cs.length := by have := rv.length; simp at this; omega
  have tvx : ∀ j : Nat, ∃ ws : List Value, ∀ p, cs[j]? = some p → Vals p.2 ws ∧ IsTup s.heap p.1 ws.toArray := fun j => by
    cases e : cs[j]? with
    | none => exact ⟨[], fun p h => nomatch h⟩
    | some p =>
      obtain ⟨ws, r1, r2, _⟩ := I.tuple (ht p (List.mem_of_getElem? e))
      exact ⟨ws, fun p' h => by cases h; exact ⟨r1, r2⟩⟩
  obtain ⟨tv, htv⟩ := Classical.axiomOfChoice tvx
  have itj : ∀ (j : Nat) (v : Value), its.toArray[j]? = some v → ∃ p, cs[j]? = some p ∧ v = .ref p.1 := fun j v hv => by
    rw [List.getElem?_toArray] at hv
    have hj : j < its.length := (List.getElem?_eq_some_iff.mp hv).1
    have e : cs[j]? = some cs[j] := List.getElem?_eq_getElem (by omega)
    obtain ⟨u, hu, ru⟩ := rv.get (i := j) (x := .ref cs[j].1) (by rw [List.getElem?_map, e]; rfl)
    rw [hv] at hu
    cases hu
    cases ru
    exact ⟨_, e, rfl⟩
  have va := vals_acc (tv := tv) (cs := cs) (fun j p hp => (htv j p hp).1) cs.length (Nat.le_refl _)
  rw [List.take_length] at va
  have sz : its.toArray.size = cs.length := by rw [List.size_toArray]; exact lcs
  refine HT.sum_tup_raw (tv := tv) (I.ok.hd hc) hl.isList hbt (fun j v hv => ?_) (by rw [sz, ← va.length]; exact hz) fun h' tk c hk hct hor => ?_
  · obtain ⟨p, hp, rfl⟩ := itj j v hv
    exact ⟨p.1, rfl, (htv j p hp).2⟩
  · rw [sz] at hct hor
    rcases hor with ⟨rfl, e⟩ | ⟨j, hj, e⟩ | hge
    · have : (cs.map (·.2)).flatten = [] := by
        rw [e] at va
        have := va.length
        exact List.eq_nil_of_length_eq_zero this
      exact ⟨.ref _, H, I.kept (t' := tk) hk, rfl, q0 this⟩
    · obtain ⟨p, hp, ep⟩ := itj j _ hj
      cases ep
      rw [e] at va
      exact ⟨.ref _, H, I.kept (t' := tk) hk, rfl, q1 p (List.mem_of_getElem? hp) (Vals.inj (htv j p hp).1 va)⟩
    · refine ⟨.ref c, _, I.laid (t' := tk) (o := .tup (cs.map (·.2)).flatten) hk hge ⟨hz, _, va, hct⟩, rfl, q2 c (I.hok.fresh hge)⟩
def tupsOf : List D → Option (List (List D))
  | [] => some []
  | .tup xs :: r => (tupsOf r).map (xs :: ·)
  | _ => none
/-- sum(xs, ()) -/
def gSumT : List D → Mem → Option D
  | [x, .tup []], μ => match lstOf μ x with
    | some xs => match tupsOf xs with
      | some ys => if ys.flatten.length ≤ sizeLine then some (.tup ys.flatten) else none
      | none => none
    | none => none
  | _, _ => none
theorem tups_rel {K : PySem.W.Frag} {mg : Str → Option Value} {w : Wd} : ∀ {xs : List D} {ys : List (List D)} {vs : List V}, tupsOf xs = some ys → RelDs K mg w xs vs → ∃ cs : List (Addr × List V), vs = cs.map (fun p => .ref p.1) ∧ (∀ p ∈ cs, SqT K w.φ p.1 p.2) ∧ RelDs K mg w ys.flatten (cs.map (·.2)).flatten
  | [], ys, vs, e, r => by cases e; cases r; exact ⟨[], rfl, (fun _ h => nomatch h), .nil⟩
  | .tup xs :: t, ys, vs, e, r => by
    unfold tupsOf at e
    obtain ⟨zs, hz, rfl⟩ := Option.map_eq_some_iff.mp e
    cases r with
    | cons r1 r2 =>
      cases r1 with
      | @tup a us _ h1 h2 =>
        obtain ⟨cs, rfl, h3, h4⟩ := tups_rel hz r2
        exact ⟨(a, us) :: cs, rfl, fun p hp => (List.mem_cons.mp hp).elim (fun e => e ▸ h1) (h3 p), h2.append h4⟩
theorem sumT_r {K : PySem.W.Frag} {mg : Str → Option Value} {T : List (Addr × Str)} {xs : List V} {H : Hp} {Q : VK} (h : rDs K mg T gSumT xs H Q) : rSumT K xs H Q := by
  obtain ⟨w, μ, ds, d, r, rs, e, q⟩ := h
  unfold gSumT at e
  split at e
  · next x =>
    cases rs with
    | cons rx rs =>
      cases rs with
      | cons rb rs =>
        cases rs
        split at e
        · next ys hy =>
          obtain ⟨a, vs, rfl, h2, h3⟩ := lstOf_rel r rx hy
          split at e
          · next zs hz =>
            split at e
            · next hl =>
              cases e
              obtain ⟨cs, rfl, h4, h5⟩ := tups_rel hz h3
              obtain ⟨b, ws, rfl, h6, h7⟩ := tupOf_rel r rb rfl
              cases h7
              refine ⟨a, b, cs, rfl, h2, h6, fun p hp => sqT_mono r.φ (h4 p hp), by rw [← h5.length]; exact hl, fun e0 => ?_, fun p hp e0 => ?_, q.tup r h5⟩
              · rw [e0] at h5
                have : zs.flatten = [] := List.eq_nil_of_length_eq_zero h5.length
                rw [this] at q
                exact q.same r rb
              · exact q.same r (.tup (h4 p hp) (by rw [e0]; exact h5))
            · cases e
          · cases e
        · cases e
  · cases e
section
variable {X : Cx} {S : SI} {W : WX} {e : Expr} {es : List Expr} {mr : AM} {pos p : Pos}
theorem pe_sumT' (hc : X.calm = true) (hg : Gl X "sum") (hm : X.mg "sum" = none) (ha : PA X (e :: es) (TAm X S W mr)) (he : starEach (e :: es) X.env = (false, eval e X.env) :: starEach es X.env := by rfl) (hpl : (backTo pos (starEach es X.env)).any (·.1) = false := by rfl) :
    PE X (.Call (.Name "sum" p) (e :: es) [] pos) (TEm X S W <| eAs gSumT mr) := pe_As (fun t h => pe_callB (cr_sumT hc) hg hm (by decide +kernel) h (by decide) (by decide) he hpl) (fun _ _ _ => sumT_r) ha
theorem tupsOf_map {α : Type} (f : α → List D) : ∀ xs : List α, tupsOf (xs.map fun x => .tup (f x)) = some (xs.map f)
  | [] => rfl
  | x :: xs => by rw [List.map_cons, tupsOf, tupsOf_map f xs]; rfl
end
end Kw

set_option Elab.async false
set_option linter.all false
set_option maxRecDepth 100000
namespace Kw
open PySem PySem.Spec PyProof.Rows L2

/-! ### own classes: fields, methods, new instances -/
/-- class, field: plain fields of instances -/
abbrev FlT := List (Str × Str)
def hasF (tab : FlT) (c f : Str) : Bool := tab.any fun q => decide (q.1 = c) && decide (q.2 = f)
def FlOk (K : PySem.W.Frag) (mg : Str → Option Value) (tab : FlT) : Prop := ∀ c f C, hasF tab c f = true → mg c = some (.ref C) → Cls K C ∧ NoAttr K C f
theorem flOk_of {K : PySem.W.Frag} {mg : Str → Option Value} {tab : FlT} (h : ∀ q ∈ tab, mg q.1 = some (.ref (He.ga K q.1)) ∧ Cls K (He.ga K q.1) ∧ NoAttr K (He.ga K q.1) q.2) : FlOk K mg tab := fun c f C hc hm => by
  unfold hasF at hc
  obtain ⟨q, hq, e⟩ := List.any_eq_true.mp hc
  rw [Bool.and_eq_true, decide_eq_true_eq, decide_eq_true_eq] at e
  obtain ⟨rfl, rfl⟩ := e
  obtain ⟨h1, h2, h3⟩ := h q hq
  rw [h1] at hm
  cases hm
  exact ⟨h2, h3⟩
def putD (f : Str) (v : D) : List (Str × D) → List (Str × D)
  | [] => [(f, v)]
  | (g, x) :: r => if g = f then (g, v) :: r else (g, x) :: putD f v r
/-- what instance an object is -/
def insOf (μ : Mem) : D → Option (Str × List (Str × D))
  | .ins c ns xs => some (c, ns.zip xs)
  | .loc l => match μ[l]? with
    | some (.ins c fs) => some (c, fs)
    | _ => none
  | _ => none
def gFld (tab : FlT) (f : Str) : D → Mem → Option D := fun o μ => match insOf μ o with
  | some (c, fs) => if hasF tab c f = true then fs.lookup f else none
  | none => none
def gFldSet (tab : FlT) (f : Str) : D → D → Mem → Option Mem
  | .loc l, v, μ => match μ[l]? with
    | some (.ins c fs) => if hasF tab c f = true ∧ fs.length < 1000 then some (μ.set l (.ins c (putD f v fs))) else none
    | _ => none
  | _, _, _ => none
section
variable {K : PySem.W.Frag} {mg : Str → Option Value} {w w' : Wd} {T : List (Addr × Str)} {μ : Mem} {H : Hp}
theorem lookup_rel {w : Wd} {f : Str} : ∀ {fs : List (Str × D)} {gs : List (Str × V)}, RelFs K mg w fs gs → (∀ d, fs.lookup f = some d → ∃ v, gs.lookup f = some v ∧ RelD K mg w d v) ∧ (fs.lookup f = none → gs.lookup f = none)
  | [], [], _ => ⟨fun d h => by simp at h, fun _ => rfl⟩
  | [], _ :: _, h => by cases h.1
  | _ :: _, [], h => by cases h.1
  | (n, d) :: fs, (m, v) :: gs, h => by
    obtain ⟨h1, h2⟩ := h
    simp only [List.map_cons, List.cons.injEq] at h1
    obtain ⟨e, h1⟩ := h1
    subst e
    cases h2 with
    | cons r rs =>
      have ih := lookup_rel (f := f) (fs := fs) (gs := gs) ⟨h1, rs⟩
      cases e : f == n with
      | true => simp only [List.lookup, e]; exact ⟨fun d' h => by cases h; exact ⟨_, rfl, r⟩, fun h => nomatch h⟩
      | false => simp only [List.lookup, e]; exact ih
theorem putD_rel {w : Wd} {f : Str} {d : D} {v : V} (rd : RelD K mg w d v) : ∀ {fs : List (Str × D)} {gs : List (Str × V)}, RelFs K mg w fs gs → RelFs K mg w (putD f d fs) (putF f v gs)
  | [], [], _ => ⟨rfl, .cons rd .nil⟩
  | [], _ :: _, h => by cases h.1
  | _ :: _, [], h => by cases h.1
  | (n, x) :: fs, (m, y) :: gs, h => by
    obtain ⟨h1, h2⟩ := h
    simp only [List.map_cons, List.cons.injEq] at h1
    obtain ⟨e, h1⟩ := h1
    have e : n = m := e
    subst e
    cases h2 with
    | cons r rs =>
      obtain ⟨i1, i2⟩ := putD_rel rd (fs := fs) (gs := gs) ⟨h1, rs⟩
      by_cases q : n = f
      · rw [putD, putF, if_pos q, if_pos q]
        exact ⟨by simp [h1], .cons rd rs⟩
      · rw [putD, putF, if_neg q, if_neg q]
        exact ⟨by simp [i1], .cons r i2⟩
theorem zip_fst {α β : Type} : ∀ {ns : List α} {xs : List β}, ns.length = xs.length → (ns.zip xs).map (·.1) = ns ∧ (ns.zip xs).map (·.2) = xs
  | [], [], _ => ⟨rfl, rfl⟩
  | a :: ns, b :: xs, h => by
    obtain ⟨i1, i2⟩ := zip_fst (ns := ns) (xs := xs) (by simpa using h)
    exact ⟨by simp [i1], by simp [i2]⟩
theorem insOf_rel (r : RelM K mg T w μ H) {d : D} {v : V} {c : Str} {fs : List (Str × D)} (rd : RelD K mg w d v) (h : insOf μ d = some (c, fs)) : ∃ a C dx gs, v = .ref a ∧ mg c = some (.ref C) ∧ H a = some (.ins C dx gs) ∧ RelFs K mg w fs gs := by
  cases rd with
  | @ins a C dx c' ns xs gs g e en rs =>
    cases h
    have hl := rs.length
    rw [List.length_map] at hl
    obtain ⟨z1, z2⟩ := zip_fst (ns := ns) (xs := xs) (by rw [← en, List.length_map, hl])
    exact ⟨_, _, _, _, rfl, g, r.φ _ _ e, ⟨z1.trans en.symm, by rw [z2]; exact rs⟩⟩
  | @loc l hl =>
    simp only [insOf] at h
    split at h
    · next c' fs' q =>
      cases h
      obtain ⟨q1, q2⟩ := r.ob l _ q
      generalize hH : H (w.ρ l) = o at q1
      cases q1 with
      | ins g rf => exact ⟨_, _, _, _, rfl, g, hH, rf⟩
    · cases h
  | _ => cases h

/-- the memory is the same where something lies that nobody tracks -/
theorem RelM.ext (r : RelM K mg T w μ H) {p : Addr} {o : HO} (hp : H p = none) : RelM K mg T w μ (upd H p o) := by
  have old : ∀ {a u}, H a = some u → upd H p o a = some u := fun {a u} e => by rw [upd_ne (ne_of_none e hp)]; exact e
  obtain ⟨f1, f2, fg, f3⟩ := r.free hp
  refine ⟨r.n, fun a u h => old (r.φ a u h), fun a u h => old (r.fr a u h), fun a u h => old (r.gr a u h), r.dj, r.dg, fun l b hb => ?_, r.gn, r.inj, tabs_upd r.tabs hp, r.nt⟩
  obtain ⟨h1, h2⟩ := r.ob l b hb
  have hl : l < w.n := by rw [r.n]; exact (List.getElem?_eq_some_iff.mp hb).1
  rw [upd_ne (f3 l hl)]
  exact ⟨h1, h2⟩
end
section
variable {X : Cx} {S : SI} {W : WX} {o e value : Expr} {f : Str} {pos pos' tpos : Pos} {mo mv : EM} {tab : FlT}
theorem fld_r {T : List (Addr × Str)} {w : Wd} {μ : Mem} {H : Hp} {K : PySem.W.Frag} {mg : Str → Option Value} (ft : FlOk K mg tab) (r : RelM K mg T w μ H) {d z : D} {v : V} (rd : RelD K mg w d v) (h : gFld tab f d μ = some z) :
    ∃ a C dx gs y, v = .ref a ∧ H a = some (.ins C dx gs) ∧ Cls K C ∧ NoAttr K C f ∧ gs.lookup f = some y ∧ RelD K mg w z y := by
  unfold gFld at h
  split at h
  · next c fs q =>
    split at h
    · next ht =>
      obtain ⟨a, C, dx, gs, h1, h2, h3, h4⟩ := insOf_rel r rd q
      obtain ⟨y, h5, h6⟩ := (lookup_rel h4).1 z h
      obtain ⟨c1, c2⟩ := ft c f C ht h2
      exact ⟨a, C, dx, gs, y, h1, h3, c1, c2, h5, h6⟩
    · cases h
  · cases h
theorem pe_fldT (ft : FlOk X.K X.mg tab) (he : PE X e (TEm X S W mo)) (hb : attributeBase e f X.env (eval e X.env) = eval e X.env := by rfl) : PE X (.Attribute e f pos) (TEm X S W <| e1 (gFld tab f) mo) :=
  PEi (L2.pe_fld he hb) fun σ H Q ⟨w, δ, μ, h⟩ => ⟨w, δ, μ, (At.bind h).mono fun x H1 ⟨w1, μ1, d, le, rd, h1⟩ => by
    obtain ⟨z, e, q⟩ := h1.opt
    obtain ⟨a, C, dx, gs, y, k1, k2, k3, k4, k5, k6⟩ := fld_r ft h1.2.1 rd e
    exact ⟨a, C, dx, gs, y, k1, k2, k3, k4, k5, q.same h1.2.1 k6⟩⟩
/-- o.f = value -/
def sFldM (tab : FlT) (f : Str) (mo mv : EM) : SM := fun δ μ => (mv δ μ).bindS δ fun v μ1 => (mo δ μ1).bindS δ fun o μ2 => match gFldSet tab f o v μ2 with
  | some μ3 => .nx δ μ3
  | none => .stuck
theorem fldSet_r {T : List (Addr × Str)} {w : Wd} {μ μ' : Mem} {H : Hp} {K : PySem.W.Frag} {mg : Str → Option Value} (ft : FlOk K mg tab) (r : RelM K mg T w μ H) {d y : D} {v u : V} (rd : RelD K mg w d v) (ry : RelD K mg w y u) (h : gFldSet tab f d y μ = some μ') :
    ∃ a C dx gs, v = .ref a ∧ H a = some (.ins C dx gs) ∧ Cls K C ∧ NoAttr K C f ∧ gs.length < 1000 ∧ RelM K mg T w μ' (upd H a (.ins C dx (putF f u gs))) := by
  unfold gFldSet at h
  split at h
  · next l =>
    split at h
    · next c fs q =>
      split at h
      · next ht =>
        cases h
        cases rd with
        | loc hl =>
        obtain ⟨q1, q2⟩ := r.ob l _ q
        generalize hH : H (w.ρ l) = o at q1
        cases q1 with
        | ins g rf =>
          rename_i C dx gs
          obtain ⟨c1, c2⟩ := ft c f _ ht.1 g
          have hlen : gs.length = fs.length := by have := congrArg List.length rf.1; simpa using this.symm
          exact ⟨_, C, dx, gs, rfl, hH, c1, c2, by rw [hlen]; exact ht.2, r.write q nofun (.ins g (putD_rel ry rf))⟩
      · cases h
    · cases h
  · cases h
theorem ps_fldM (ft : FlOk X.K X.mg tab) (ho : PE X o (TEm X S W mo)) (hv : PE X value (TEm X S W mv)) (hs : swapsWith value (some (.Attribute o f pos')) pos.line X.env = pure false := by rfl) : PS X (.Assign [.Attribute o f pos'] value pos) (TSm X S W <| sFldM tab f mo mv) :=
  PSi (L2.ps_fld ho hv hs) fun D σ H ⟨w, δ, μ, rs, rm, h⟩ => ⟨w, δ, μ, (At.bindS rs rm h).mono fun y H1 ⟨w1, μ1, v, le1, rv, rs1, rm1, q⟩ => ⟨w1, δ, μ1, (At.bindS rs1 rm1 q).mono fun x H2 ⟨w2, μ2, d, le2, rd, rs2, rm2, q2⟩ => by
    split at q2
    · next μ3 e =>
      obtain ⟨a, C, dx, gs, k1, k2, k3, k4, k5, k6⟩ := fldSet_r ft rm2 rd (rv.mono le2) e
      exact ⟨a, C, dx, gs, k1, k2, k3, k4, k5, q2 w2 σ _ (Wd.Le.refl _) k6 rs2⟩
    · exact q2.elim⟩⟩
/-- o.f op= value -/
def gFldAug (tab : FlT) (f : Str) (g : D → D → Mem → Option D) (l : Nat) (c : Str) (v y : D) (μ : Mem) : Option Mem := match g v y μ with
  | some z => match μ[l]? with
    | some (.ins c' fs) => if c' = c ∧ hasF tab c f = true ∧ fs.length < 1000 then some (μ.set l (.ins c (putD f z fs))) else none
    | _ => none
  | none => none
def sFldA (tab : FlT) (f : Str) (g : D → D → Mem → Option D) (mo mv : EM) : SM := fun δ μ => (mo δ μ).bindS δ fun o μ1 => match o with
  | .loc l => match μ1[l]? with
    | some (.ins c fs) => match gFld tab f (.loc l) μ1 with
      | some v => (mv δ μ1).bindS δ fun y μ2 => match gFldAug tab f g l c v y μ2 with
        | some μ3 => .nx δ μ3
        | none => .stuck
      | none => .stuck
    | _ => .stuck
  | _ => .stuck
theorem ps_fldA {op : Operator} {r : R2} {g : D → D → Mem → Option D} (ft : FlOk X.K X.mg tab) (hop : OpR X (inplaceOp op) r) (hr : ∀ x y H Q, rD2 X.K X.mg S.T g x y H Q → r x y H Q) (ho : PE X o (TEm X S W mo)) (hv : PE X value (TEm X S W mv)) :
    PS X (.AugAssign (.Attribute o f tpos) op value pos) (TSm X S W <| sFldA tab f g mo mv) :=
  PSi (ps_fldaug (rd := r) ho hv (fun pins s σ H x y v u Q I rx ry q => hop pins s σ H x y v u Q I rx ry q)) fun D σ H ⟨w, δ, μ, rs, rm, h⟩ => ⟨w, δ, μ, (At.bindS rs rm h).mono fun x H1 ⟨w1, μ1, d, le1, rd, rs1, rm1, q⟩ => by
    split at q
    · next l =>
      split at q
      · next c fs hc =>
        split at q
        · next v hv' =>
          obtain ⟨a, C, dx, gs, y, k1, k2, k3, k4, k5, k6⟩ := fld_r ft rm1 rd hv'
          have hC : X.mg c = some (.ref C) := by
            obtain ⟨a', C', dx', gs', j1, j2, j3, j4⟩ := insOf_rel rm1 rd (c := c) (fs := fs) (by simp only [insOf, hc])
            rw [k1] at j1
            cases j1
            rw [k2] at j3
            cases j3
            exact j2
          refine ⟨a, C, dx, gs, y, k1, k2, k3, k4, k5, w1, δ, μ1, (At.bindS rs1 rm1 q).mono fun y2 H2 ⟨w2, μ2, d2, le2, rd2, rs2, rm2, q2⟩ => ?_⟩
          split at q2
          · next μ3 e =>
            unfold gFldAug at e
            split at e
            · next z hz =>
              split at e
              · next c' fs' hc' =>
                split at e
                · next ht =>
                  obtain ⟨rfl, ht2, ht3⟩ := ht
                  cases e
                  refine hr _ _ _ _ ⟨w2, μ2, v, d2, z, rm2, k6.mono le2, rd2, hz, fun w3 v3 H3 le3 rm3 rd3 => ?_⟩
                  have rl := (rd.mono le2).mono le3
                  rw [k1] at rl
                  obtain ⟨q1, q2'⟩ := rm3.ob l _ hc'
                  cases rl with
                  | loc hl =>
                  generalize hH : H3 (w3.ρ l) = oo at q1
                  cases q1 with
                  | ins g' rf =>
                    rename_i C' dx' gs'
                    rw [hC] at g'
                    cases g'
                    have hlen : gs'.length = fs'.length := by have := congrArg List.length rf.1; simpa using this.symm
                    exact ⟨dx', gs', hH, by rw [hlen]; exact ht3, q2 w3 σ _ le3 (rm3.write hc' nofun (.ins hC (putD_rel rd3 rf))) (rs2.mono le3)⟩
                · cases e
              · cases e
            · cases e
          · exact q2.elim
        · exact q.elim
      · exact q.elim
    · exact q.elim⟩
end
end Kw

set_option Elab.async false
set_option linter.all false
set_option maxRecDepth 100000
namespace Kw
open PySem PySem.Spec PyProof.Rows L2

/-! ### calls of methods; new instances -/
/-- the arguments of a call: values, then keywords -/
structure CWA (X : Cx) (pos : Pos) (es : List Expr) (kws : List Keyword) (ks : List Str) (t tk : TA) : Prop where
  run : ∀ {f : Value} {first : List Value} {Q : Value → Shared → Prop} {pins : List (Addr × Obj)} {σ : L2.St} {H : Hp} {s : Shared} {R : List V → List V → Hp → Prop}, PySem.W.keepIn X.K f = true → Inv X pins σ H s → t σ H (fun vs H1 => tk σ H1 fun zs H2 => R vs zs H2) →
    (∀ (us ws : List Value) (vs zs : List V) (H2 : Hp) (s2 : Shared), Inv X pins σ H2 s2 → Vals vs us → Vals zs ws → R vs zs H2 → wpAny (model X.prog X.w) X.A (call f (first ++ us) (ks.zip ws)) Q X.xe s2) →
    wpAny (model X.prog X.w) X.A (callWith pos f first (backTo pos (starEach es X.env)) (backToKw pos (keywordEach kws X.env))) Q X.xe s
section
variable {X : Cx} {pos : Pos} {e : Expr} {es : List Expr} {kws : List Keyword} {ks : List Str} {t tk : TA} {S : SI} {W : WX} {mk : AM}
theorem cwa (ha : PA X (e :: es) t) (hkw : PK X kws tk) (hall : (backToKw pos (keywordEach kws X.env)).all (·.1.isSome) = true := by rfl) (hks : (backToKw pos (keywordEach kws X.env)).filterMap (·.1) = ks := by rfl) (he : starEach (e :: es) X.env = (false, eval e X.env) :: starEach es X.env := by rfl)
    (hpl : ((backTo pos (starEach (e :: es) X.env)).any (·.1) || (backToKw pos (keywordEach kws X.env)).any (·.1.isNone)) = false := by rfl) : CWA X pos (e :: es) kws ks t tk := ⟨fun {f first Q pins σ H s R} hk I h q => by
  refine PySem.W.callWith_KW (h₀ := X.base) I.ok.mod.kin hk hall (thn (ha.run pos pins s σ H _ I h) fun us s1 ⟨vs, H1, I1, r, q1⟩ => ?_) hpl he
  refine thn (hkw.run pos pins s1 σ H1 _ I1 q1) fun ws s2 ⟨zs, H2, I2, rz, q2⟩ => ⟨I2.kIn, ?_⟩
  rw [hks]
  exact q us ws vs zs H2 s2 I2 r rz q2⟩
theorem cwa0 (hkw : PK X kws (TAm X S W mk)) (hall : (backToKw pos (keywordEach kws X.env)).all (·.1.isSome) = true := by rfl) (hks : (backToKw pos (keywordEach kws X.env)).filterMap (·.1) = ks := by rfl)
    (hpl : ((backTo pos (starEach [] X.env)).any (·.1) || (backToKw pos (keywordEach kws X.env)).any (·.1.isNone)) = false := by rfl) : CWA X pos [] kws ks (TAm X S W aNil) (TAm X S W mk) := ⟨fun {f first Q pins σ H s R} hk I h q => by
  obtain ⟨w, δ, μ, h⟩ := h
  have h := h.2.2 w [] H (Wd.Le.refl _) h.2.1 .nil
  refine PySem.W.callWith_KW0 (h₀ := X.base) I.ok.mod.kin hk hall (thn (hkw.run pos pins s σ H _ I h) fun ws s2 ⟨zs, H2, I2, rz, q2⟩ => ⟨I2.kIn, ?_⟩) hpl
  rw [hks]
  exact q [] ws [] zs H2 s2 I2 .nil rz q2⟩
end
/-- how arguments stand in the parameters' order -/
structure KG (a b n : Nat) (gD : List D → List D → List D) (gV : List V → List V → List V) (gU : List Value → List Value → List Value) : Prop where
  relD : ∀ {K : PySem.W.Frag} {mg : Str → Option Value} {w : Wd} {ds es : List D} {vs zs : List V}, RelDs K mg w ds vs → RelDs K mg w es zs → RelDs K mg w (gD ds es) (gV vs zs)
  relV : ∀ {vs zs : List V} {us ws : List Value}, Vals vs us → Vals zs ws → Vals (gV vs zs) (gU us ws)
  len : ∀ ds es, ds.length = a → es.length = b → (gD ds es).length = n
def gPos : List D → List D → List D := fun ds _ => ds
def gPerm (idx : List Nat) : List D → List D → List D := fun ds es => permL idx (ds ++ es)
theorem kg_pos {n : Nat} : KG n 0 n gPos (fun vs _ => vs) (fun us _ => us) := ⟨fun h _ => h, fun h _ => h, fun _ _ h _ => h⟩
theorem kg_perm {a b n : Nat} (idx : List Nat) (h : ∀ ds : List D, ds.length = a + b → (permL idx ds).length = n) : KG a b n (gPerm idx) (fun vs zs => permL idx (vs ++ zs)) (fun us ws => permL idx (us ++ ws)) :=
  ⟨fun h1 h2 => permL_rel idx (h1.append h2), fun h1 h2 => permL_vals idx (h1.append h2), fun ds es h1 h2 => h _ (by rw [List.length_append, h1, h2])⟩
/-- a way to call -/
def CallR (cl : FM → List D → Mem → Out D) : Prop := ∀ {K : PySem.W.Frag} {mg : Str → Option Value} {T : List (Addr × Str)} {w : Wd} {μ : Mem} {H : Hp} {Q : VK} {E : XK} {m : FM} {ds : List D} {vs : List V} {n : Nat},
  vs.length = n → RelM K mg T w μ H → RelDs K mg w ds vs → FTo K mg T w Q E (cl m ds μ) → spM K mg T n m vs H Q E
theorem callR_M : CallR callM := fun a b c d => sp_callM a b c d
theorem callR_P : CallR callP := fun a b c d => sp_callP a b c d
/-- a method -/
structure MetD (P : Program) (w : World) (K : PySem.W.Frag) (mg : Str → Option Value) (base : Heap) (T : List (Addr × Str)) (cn mn qual : Str) (st : Stmt) (k : Nat) (ps : List Str) (m : FM) : Prop where
  ex : ∃ C f fd, mg cn = some (.ref C) ∧ Cls K C ∧ Meth K C mn f ∧ FunD K mn qual (defArgs st) (defBody st) (defScope st) [] [] f fd ∧ FnG P w K mg base k f fd ps (spM K mg T ps.length m)
/-- an __init__ -/
structure IniD (P : Program) (w : World) (K : PySem.W.Frag) (mg : Str → Option Value) (base : Heap) (T : List (Addr × Str)) (cn qual : Str) (st : Stmt) (k : Nat) (ps : List Str) (m : FM) : Prop where
  ex : ∃ C f fd, mg cn = some (.ref C) ∧ Mk K C f ∧ FunD K "__init__" qual (defArgs st) (defBody st) (defScope st) [] [] f fd ∧ FnG P w K mg base k f fd ps (spM K mg T ps.length m)
theorem bindsG {K : PySem.W.Frag} {x qual : Str} {params : Arguments} {body : List Stmt} {scope : Scope} {f : Addr} {fd : FuncData} {ks ps : List Str} {a b : Nat} {gU : List Value → List Value → List Value} (F : FunD K x qual params body scope [] [] f fd)
    (hb : ∀ (kV doc pm : Value) (an : Option Addr) (cdv ct : Value) (us ws : List Value), us.length = a → ws.length = b → bindArgs (PySem.W.fnOf x qual params body scope .none kV doc pm an cdv ct) ⟨us, ks.zip ws⟩ = pure (ps.zip (gU us ws)))
    (s : Shared) (us ws : List Value) (h1 : us.length = a) (h2 : ws.length = b) : BindsTo s fd ⟨us, ks.zip ws⟩ (ps.zip (gU us ws)) := by
  obtain ⟨oc, od, dV, kV, doc, pm, an, cdv, ct, osl, rfl, lk, hcd, hD, hK⟩ := F.ex
  rcases hD with ⟨_, rfl⟩ | ⟨e, _⟩
  · exact .of_eq (hb kV doc pm an cdv ct us ws h1 h2)
  · exact absurd rfl e
/-- an instance of cn that has no field mn -/
def isI (cn mn : Str) (μ : Mem) (o : D) : Bool := match insOf μ o with
  | some (c, fs) => decide (c = cn) && (fs.lookup mn).isNone
  | none => false
def eMeth (cl : FM → List D → Mem → Out D) (m : FM) (cn mn : Str) (g : List D → List D → List D) (mo : EM) (mr mk : AM) : EM := fun δ μ => (mo δ μ).bind fun o μ1 => if isI cn mn μ1 o = true then (mr δ μ1).bind fun ds μ2 => (mk δ μ2).bind fun es μ3 => cl m (g (o :: ds) es) μ3 else .stuck
def mkM (fz : Bool) (cn : Str) (k : Nat) : Out D → Out D
  | .ok .non μ' => if fz = true then (match μ'[k]? with
      | some (.ins c fs) => if c = cn ∧ locBs false k (fs.map (·.2)) = true ∧ (μ'.take k).all (obB k) = true then .ok (.ins cn (fs.map (·.1)) (fs.map (·.2))) (μ'.take k) else .stuck
      | _ => .stuck)
    else if (μ'.take (k + 1)).all (obB (k + 1)) = true then .ok (.loc k) (μ'.take (k + 1)) else .ok (.loc k) μ'
  | .exc x μ' => if (locBs false k (x.fs.map (·.2)) && (μ'.take k).all (obB k)) = true then .exc x (μ'.take k) else .exc x μ'
  | _ => .stuck
/-- C(..); fz: nothing changes it any more -/
def eMake (fz : Bool) (m : FM) (cn : Str) (g : List D → List D → List D) (mr mk : AM) : EM := fun δ μ => (mr δ μ).bind fun ds μ1 => (mk δ μ1).bind fun es μ2 => mkM fz cn μ2.length (m (g (.loc μ2.length :: ds) es) (μ2 ++ [.ins cn []]))
section
variable {X : Cx} {S : SI} {W : WX} {j k a b n : Nat} {ps ks : List Str} {cn mn qual : Str} {st : Stmt} {pos apos p : Pos} {o : Expr} {es : List Expr} {kws : List Keyword} {m : FM} {mo : EM} {mr mk : AM} {cl : FM → List D → Mem → Out D} {gD : List D → List D → List D} {gV : List V → List V → List V} {gU : List Value → List Value → List Value}
theorem pe_methG {pl : Sem Bool} (C : MetD X.prog X.w X.K X.mg X.base S.T cn mn qual st k ps m) (hcl : CallR cl) (hx : ∀ σ, PassesAt (L2.CX X.prog X.w) X σ (WE W σ)) (hr : Room j X.A) (hk : k ≤ j) (hgd : X.A.guards = some []) (ho : PE X o (TEm X S W mo)) (cw : CWA X pos es kws ks (TAm X S W mr) (TAm X S W mk))
    (kg : KG (a + 1) b ps.length gD gV gU) (hb : ∀ (kV doc pm : Value) (an : Option Addr) (cdv ct : Value) (us ws : List Value), us.length = a + 1 → ws.length = b → bindArgs (PySem.W.fnOf mn qual (defArgs st) (defBody st) (defScope st) .none kV doc pm an cdv ct) ⟨us, ks.zip ws⟩ = pure (ps.zip (gU us ws)))
    (hn : ∀ δ μ ds μ', mr δ μ = .ok ds μ' → ds.length = a) (hn2 : ∀ δ μ ds μ', mk δ μ = .ok ds μ' → ds.length = b)
    (ht : eval (.Call (.Attribute o mn apos) es kws pos) X.env = (do
      let ov ← eval o X.env
      standAt apos.atName
      let (f, first) ← holding [ov] (getMethod ov mn pl)
      callWith pos f first (backTo pos (starEach es X.env)) (backToKw pos (keywordEach kws X.env))) := by rfl) :
    PE X (.Call (.Attribute o mn apos) es kws pos) (TEm X S W <| eMeth cl m cn mn gD mo mr mk) := by
  obtain ⟨C, f, fd, hC, hc, hm, F, G⟩ := C.ex
  refine ⟨fun pins s σ H Q I ⟨w, δ, μ, h⟩ => ?_⟩
  refine PySem.W.methodCall_KW (pl := pl) (thn (ho.run pins s σ H _ I ⟨w, δ, μ, At.bind h⟩) fun u s1 ⟨x, H1, I1, rx, w1, μ1, d, le, rd, h1⟩ => ?_) ht
  by_cases hi : isI cn mn μ1 d = true
  · rw [if_pos hi] at h1
    unfold isI at hi
    split at hi
    · next c fs q =>
      rw [Bool.and_eq_true, decide_eq_true_eq, Option.isNone_iff_eq_none] at hi
      obtain ⟨rfl, hi⟩ := hi
      obtain ⟨ad, C', dx, gs, rfl, k2, k3, k4⟩ := insOf_rel h1.2.1 rd q
      rw [hC] at k2
      cases k2
      obtain rfl : u = Value.ref ad := rx
      refine getmeth_ok I1 k3 hc hm ((lookup_rel k4).2 hi) ?_
      refine cw.run (first := [.ref ad]) (R := fun vs zs H2 => vs.length = a ∧ zs.length = b ∧ spM X.K X.mg S.T ps.length m (gV (.ref ad :: vs) zs) H2 Q (WE W σ)) hm.kp I1 ⟨w1, δ, μ1, h1.1, h1.2.1, ?_⟩ fun us ws vs zs H2 s2 I2 r rz ⟨l1, l2, q2⟩ => ?_
      · have h3 := h1.2.2
        cases e : mr δ μ1 with
        | stuck => rw [e] at h3; exact h3.elim
        | exc x μ' => rw [e] at h3; exact h3
        | ok ds μ' =>
          rw [e] at h3
          intro w' vs H' le' rm rs
          refine ⟨w', δ, μ', h1.1.mono le', rm, ?_⟩
          have h4 : ((mk δ μ').bind fun es μ2 => cl m (gD (d :: ds) es) μ2).to _ _ := h3
          cases e2 : mk δ μ' with
          | stuck => rw [e2] at h4; exact h4.elim
          | exc x μ2 => rw [e2] at h4; exact fun w2 c d H2 le2 => h4 w2 c d H2 (le'.trans le2)
          | ok es μ2 =>
            rw [e2] at h4
            intro w2 us H2 le2 rm2 rs2
            have l1 := hn _ _ _ _ e
            have l2 := hn2 _ _ _ _ e2
            have rr := kg.relD (.cons ((rd.mono le').mono le2) (rs.mono le2)) rs2
            refine ⟨by rw [← rs.length]; exact l1, by rw [← rs2.length]; exact l2, hcl (by rw [← rr.length]; exact kg.len _ _ (by rw [List.length_cons, l1]) l2) rm2 rr ?_⟩
            exact Out.to_mono h4 (fun d μ2 q w3 v2 H2 le3 => q w3 v2 H2 ((le'.trans le2).trans le3)) fun x μ2 q w3 c d H2 le3 => q w3 c d H2 ((le'.trans le2).trans le3)
      · exact call_of (run_G (us := gU (.ref ad :: us) ws) G (hr.mono hk) hgd (hx σ) I2 (bindsG F hb s2 (.ref ad :: us) ws (by rw [List.length_cons, ← r.length, l1]) (by rw [← rz.length]; exact l2)) (kg.relV (vs := .ref ad :: vs) (us := .ref ad :: us) (.cons rfl r) rz) q2)
    · cases hi
  · rw [if_neg hi] at h1
    exact h1.2.2.elim
theorem run_makeG {C f : Addr} {fd : FuncData} {sp : Sp} {pins : List (Addr × Obj)} {σ : L2.St} {H : Hp} {s : Shared} {Q : VK} {us ws : List Value} (M : Mk X.K C f) (F : FnG X.prog X.w X.K X.mg X.base k f fd ps sp) (hr : Room (k + 1) X.A) (hgd : X.A.guards = some []) (hx : PassesAt (L2.CX X.prog X.w) X σ (WE W σ))
    (gU : List Value → List Value → List Value) (hb : ∀ (s : Shared) (x : Addr), X.K.In s.heap → BindsTo s fd ⟨.ref x :: us, ks.zip ws⟩ (ps.zip (gU (.ref x :: us) ws))) (gv : Addr → List V) (r : ∀ x, Vals (gv x) (gU (.ref x :: us) ws)) (I : Inv X pins σ H s)
    (h : ∀ x dx, H x = none → H dx = none → dx ≠ x → sp (gv x) (upd (upd H dx (.own x)) x (.ins C dx [])) (fun v H2 => v = .non ∧ Q (.ref x) H2) (WE W σ)) :
    wpAny (model X.prog X.w) X.A (call (.ref C) us (ks.zip ws)) (EP X pins σ Q) X.xe s := by
  have hq := h (s.heap.objs.size + 1) s.heap.objs.size (I.hok.fresh (Nat.le_succ _)) (I.hok.fresh (Nat.le_refl _)) (Nat.ne_of_lt (Nat.lt_succ_self _))
  have I2 := Inv.made (C := C) I
  refine wpAny_call (make_map (f := f) I.kIn M.makes M.init (beq_iff_eq.mp M.fn) (codeAny_mono (F.run _ X.stack _ _ ⟨Value.ref (s.heap.objs.size + 1) :: us, ks.zip ws⟩ (gU (.ref (s.heap.objs.size + 1) :: us) ws) _ _ _ (hr.make C us _) hgd
    (I2.env0.make C us _) (hb _ _ I2.kIn) (r _) hq) fun r s' hq' => ?_))
  cases r with
  | error e => exact hx pins _ _ e s' I2 hq'
  | ok fl =>
    cases fl with
    | ret u =>
      obtain ⟨v, H', I3, rv, ev, q3⟩ := I2.after hq'
      subst ev
      exact ⟨rv, ⟨V.ref (s.heap.objs.size + 1), H', I3, rfl, q3⟩⟩
    | next => exact False.elim hq'
    | brk => exact False.elim hq'
    | cont => exact False.elim hq'

theorem mkM_rel {K : PySem.W.Frag} {mg : Str → Option Value} {T : List (Addr × Str)} {w0 w : Wd} {μ : Mem} {H : Hp} {Q : VK} {E : XK} {C x dx : Addr} {fz : Bool} {out : Out D} (hC : mg cn = some (.ref C)) (r : RelM K mg T w μ H) (le0 : w0.Le w) (hx : H x = none) (hd : H dx = none) (hne : dx ≠ x)
    (h : FTo K mg T w0 Q E (mkM fz cn μ.length out)) :
    RelM K mg T (w.put x) (μ ++ [.ins cn []]) (upd (upd H dx (.own x)) x (.ins C dx [])) ∧ RelD K mg (w.put x) (.loc μ.length) (.ref x) ∧ FTo K mg T (w.put x) (fun v H2 => v = .non ∧ Q (.ref x) H2) E out := by
  have r1 := r.ext (o := .own x) hd
  have hx1 : upd H dx (.own x) x = none := by rw [upd_ne (fun e => hne e.symm)]; exact hx
  have r2 := r1.put hx1 (o := .ins C dx []) (b := .ins cn []) (.ins hC ⟨rfl, .nil⟩)
  have rl : RelD K mg (w.put x) (.loc μ.length) (.ref x) := by
    have := RelD.loc (K := K) (mg := mg) (w := w.put x) (l := μ.length) (by rw [← r.n]; exact Nat.lt_succ_self _)
    rwa [← r.n, Wd.put_at, r.n] at this
  refine ⟨r2, rl, ?_⟩
  have ple := w.put_le x
  have xat : ∀ {w' : Wd}, (w.put x).Le w' → w'.ρ μ.length = x := fun {w'} le => by
    have := le.ρ μ.length (by rw [← r.n]; exact Nat.lt_succ_self _)
    rw [this, ← r.n, Wd.put_at]
  have nn : ∀ {w' : Wd} {μ' : Mem} {H' : Hp}, (w.put x).Le w' → RelM K mg T w' μ' H' → μ.length + 1 ≤ μ'.length := fun {w' μ' H'} le rm => by
    rw [← rm.n, ← r.n]; exact le.n
  have into : ∀ {w' : Wd} (k : Nat), Into false k w' (w'.trunc k) := fun k => ⟨fun _ _ h => h, fun _ => rfl, fun l h _ => ⟨h, rfl⟩⟩
  have lt : ∀ {w' : Wd}, (w.put x).Le w' → w0.Le (w'.trunc μ.length) := fun {w'} le => le0.trans ⟨by rw [r.n]; exact Nat.le_refl _, (ple.trans le).ρ, (ple.trans le).φ, (ple.trans le).fr, (ple.trans le).gr⟩
  cases out with
  | stuck => exact h
  | exc e μ' =>
    intro w' c dd H' le rm rx
    unfold mkM at h
    simp only at h
    split at h
    · next hc =>
      rw [Bool.and_eq_true] at hc
      exact h (w'.trunc μ.length) c dd H' (lt le) (rm.trunc (Nat.le_trans (Nat.le_succ _) (nn le rm)) hc.2) (rx.into (into _) hc.1)
    · exact h w' c dd H' (le0.trans (ple.trans le)) rm rx
  | ok d μ' =>
    intro w' v H' le rm rd
    cases d with
    | non =>
      cases rd
      refine ⟨rfl, ?_⟩
      unfold mkM at h
      simp only at h
      have hlen := nn le rm
      split at h
      · split at h
        · next c fs q =>
          split at h
          · next hc =>
            obtain ⟨rfl, hc1, hc2⟩ := hc
            obtain ⟨q1, q2⟩ := rm.ob _ _ q
            generalize hH : H' (w'.ρ μ.length) = oo at q1
            cases q1 with
            | ins g rf =>
              rename_i C' dx' gs'
              obtain ⟨le2, rm2⟩ := rm.freeze q nofun hH
              have rm3 := rm2.trunc (k := μ.length) (Nat.le_trans (Nat.le_succ _) (by simpa using hlen)) (by rw [List.take_set_of_le (Nat.le_refl _)]; exact hc2)
              rw [List.take_set_of_le (Nat.le_refl _)] at rm3
              refine h _ _ _ ((lt (le.trans le2))) rm3 ?_
              rw [← xat le]
              exact .ins g upd_same rf.1.symm (RelDs.into (into _) _ _ (RelDs.mono le2 rf.2) hc1)
          · exact h.elim
        · exact h.elim
      · split at h
        · next hc =>
          refine h (w'.trunc (μ.length + 1)) (.ref x) H' (le0.trans ⟨by rw [r.n]; exact Nat.le_succ _, (ple.trans le).ρ, (ple.trans le).φ, (ple.trans le).fr, (ple.trans le).gr⟩) (rm.trunc hlen hc) ?_
          rw [← xat le]
          exact .loc (l := μ.length) (w := w'.trunc (μ.length + 1)) (Nat.lt_succ_self _)
        · refine h w' (.ref x) H' (le0.trans (ple.trans le)) rm ?_
          rw [← xat le]
          exact .loc (by rw [rm.n]; omega)
    | _ => exact h.elim
theorem pe_makeG {fz : Bool} (C : IniD X.prog X.w X.K X.mg X.base S.T cn qual st k ps m) (hx : ∀ σ, PassesAt (L2.CX X.prog X.w) X σ (WE W σ)) (hr : Room j X.A) (hk : k + 1 ≤ j) (hgd : X.A.guards = some []) (hg : Gl X cn) (cw : CWA X pos es kws ks (TAm X S W mr) (TAm X S W mk))
    (kg : KG (a + 1) b ps.length gD gV gU) (hb : ∀ (kV doc pm : Value) (an : Option Addr) (cdv ct : Value) (us ws : List Value), us.length = a + 1 → ws.length = b → bindArgs (PySem.W.fnOf "__init__" qual (defArgs st) (defBody st) (defScope st) .none kV doc pm an cdv ct) ⟨us, ks.zip ws⟩ = pure (ps.zip (gU us ws)))
    (hn : ∀ δ μ ds μ', mr δ μ = .ok ds μ' → ds.length = a) (hn2 : ∀ δ μ ds μ', mk δ μ = .ok ds μ' → ds.length = b) (hdb : (cn == ("__debug__" : Str)) = false := by decide) :
    PE X (.Call (.Name cn p) es kws pos) (TEm X S W <| eMake fz m cn gD mr mk) := by
  obtain ⟨C, f, fd, hC, M, F, G⟩ := C.ex
  refine ⟨fun pins s σ H Q I ⟨w, δ, μ, h⟩ => ?_⟩
  refine wpAny_Call_Name_kw (ld_glob I hg hC ?_ hdb)
  refine cw.run (first := []) (R := fun vs zs H2 => vs.length = a ∧ zs.length = b ∧ ∀ x dx, H2 x = none → H2 dx = none → dx ≠ x → spM X.K X.mg S.T ps.length m (gV (.ref x :: vs) zs) (upd (upd H2 dx (.own x)) x (.ins C dx [])) (fun v H3 => v = .non ∧ Q (.ref x) H3) (WE W σ)) M.kp I ⟨w, δ, μ, h.1, h.2.1, ?_⟩ fun us ws vs zs H2 s2 I2 r rz ⟨l1, l2, q2⟩ => ?_
  · have h3 := h.2.2
    unfold eMake at h3
    cases e : mr δ μ with
    | stuck => rw [e] at h3; exact h3.elim
    | exc x μ' => rw [e] at h3; exact h3
    | ok ds μ' =>
      rw [e] at h3
      intro w' vs H' le' rm rs
      refine ⟨w', δ, μ', h.1.mono le', rm, ?_⟩
      have h4 : ((mk δ μ').bind fun es μ2 => mkM fz cn μ2.length (m (gD (.loc μ2.length :: ds) es) (μ2 ++ [.ins cn []]))).to _ _ := h3
      cases e2 : mk δ μ' with
      | stuck => rw [e2] at h4; exact h4.elim
      | exc x μ2 => rw [e2] at h4; exact fun w2 c d H2 le2 => h4 w2 c d H2 (le'.trans le2)
      | ok es μ2 =>
        rw [e2] at h4
        intro w2 us H2 le2 rm2 rs2
        have l1 := hn _ _ _ _ e
        have l2 := hn2 _ _ _ _ e2
        refine ⟨by rw [← rs.length]; exact l1, by rw [← rs2.length]; exact l2, fun x dx hx' hd' hne => ?_⟩
        obtain ⟨r1, r2, r3⟩ := mkM_rel (w0 := w2) (E := WE W σ) hC rm2 (Wd.Le.refl _) hx' hd' hne (out := m (gD (.loc μ2.length :: ds) es) (μ2 ++ [.ins cn []])) (Q := Q) (fz := fz) (by
          exact Out.to_mono h4 (fun d μ2 q w3 v2 H2 le3 => q w3 v2 H2 ((le'.trans le2).trans le3)) fun x μ2 q w3 c d H2 le3 => q w3 c d H2 ((le'.trans le2).trans le3))
        have rr := kg.relD (.cons r2 ((rs.mono le2).mono (w2.put_le x))) (rs2.mono (w2.put_le x))
        exact ⟨by rw [← rr.length]; exact kg.len _ _ (by rw [List.length_cons, l1]) l2, w2.put x, _, _, r1, rr, r3⟩
  · exact run_makeG M G (hr.mono hk) hgd (hx σ) gU (fun s x _ => bindsG F hb s (.ref x :: us) ws (by rw [List.length_cons, ← r.length, l1]) (by rw [← rz.length]; exact l2)) (fun x => gV (.ref x :: vs) zs) (fun x => kg.relV (vs := .ref x :: vs) (us := .ref x :: us) (.cons rfl r) rz) I2 q2
end
end Kw

set_option Elab.async false
set_option linter.all false
set_option maxRecDepth 100000
/-! own == and != of instances -/
namespace PySem.W
open PySem PySem.Spec
section
variable {prog : Program} {w : World} {A : Around} {E : Value → Shared → Prop} {s : Shared} {K : Frag} {x C f : Addr} {ox : Obj} {od : Option Obj} {b tb : Value}
theorem objNe_own (X : K.In s.heap) (I : InstAt s.heap x ox C od) (hs : findIn K (.ref C) "__eq__" = some (some (.ref f))) (hf : isFn K (.ref f) = true) (hu : A.units < cLine) {Q : Fin → Shared → Prop}
    (h : wpAny (model prog w) A (call (.ref f) [.ref x, b]) (fun v s' => ∃ r, v = .bool r ∧ Q (.done (.ret (.bool (!r)))) s') E s) : wpAny (model prog w) A (Builtin.«object.__ne__» ⟨[.ref x, b], []⟩) Q E s := by
  unfold Builtin.«object.__ne__»
  repeat (first
    | with_reducible refine wpAny_cRoomFor hu ?_
    | (refine wpAny_bind (m := callSpecialIfBound? (.ref x) (Str.ofString "__eq__") [b]) (ifBound_K X I hs hf (wpAny_mono h (fun v s' hv => by
          obtain ⟨r, rfl, hq⟩ := hv
          repeat (first | exact hq | exact wpAny_pure hq | exact wpAny_truthy_bool hq | (refine wpAny_bind (m := truthy (.bool _)) (wpAny_truthy_bool ?_)) | wp_step)) fun _ _ e => e)))
    | wp_step)
theorem csib_ {M : Model} {self : Value} {name : PySem.Str} {id : String} {args : List Value} {Q : Option Value → Shared → Prop} (sp : Looks M s.heap (specialOf self name) (some (.builtin id))) (hb : bindSpecial (.builtin id) self = pure (.builtin id, [self]))
    (run : wpAny M A (call (.builtin id) ([self] ++ args)) (fun v => Q (some v)) E s) : wpAny M A (callSpecialIfBound? self name args) Q E s := by
  simp only [callSpecialIfBound?, bindSpecialIfBound?]
  refine wpAny_holding (wpAny_bind (wpAny_bind (sp.here (wpAny_bind (wpAny_askSetting (wpAny_ite ?_))))))
  have z : wpAny M A (call (.builtin id) ([self] ++ args) >>= fun v => pure (some v)) Q E s := wpAny_bind (wpAny_mono run (fun v s' k => wpAny_pure k) fun _ _ k => k)
  split
  · exact wpAny_bind (wpAny_of_eq hb (wpAny_pure (by exact z)))
  · exact wpAny_tryCatch (wpAny_bind (wpAny_of_eq hb (wpAny_pure (by exact z))))
theorem tryNe_own (X : K.In s.heap) (I : InstAt s.heap x ox C od) (hne : findIn K (.ref C) "__ne__" = some (some (.builtin "object.__ne__"))) (ho : mroIn K C (.type "object") = some true) (hs : findIn K (.ref C) "__eq__" = some (some (.ref f))) (hf : isFn K (.ref f) = true) (hu : A.units + 1 < cLine) {Q : Option Value → Shared → Prop}
    (h : wpAny (model prog w) A.in1 (call (.ref f) [.ref x, b]) (fun v s' => ∃ r, v = .bool r ∧ Q (some (.bool (!r))) s') E s) : wpAny (model prog w) A (tryCompare (.ref x) "__ne__" b) Q E s := by
  simp only [tryCompare]
  refine wpAny_bind (csib_ (id := "object.__ne__") (I.type.andThen (looks_findIn X hne)) (F.cmp_object.ne.bind _) (wpAny_call (codeAny_call_builtin F.cmp_object.ne.plain F.cmpEntry_ne
    (check_slot F.cmpKind_ne F.cmpSplit_ne (I.type.andThen (looks_mroIn X ho)) (F.cmpArgs_ne _ _) (objNe_own X I hs hf hu ?_)))))
  refine wpAny_mono h (fun v s' hv => ?_) fun _ _ e => e
  obtain ⟨r, rfl, hq⟩ := hv
  exact ⟨r, rfl, wpAny_pure hq⟩
end
end PySem.W
namespace PySem.W
open PySem PySem.Spec
section
variable {prog : Program} {w : World} {A : Around} {E : Value → Shared → Prop} {s : Shared} {K : Frag} {x C f : Addr} {ox : Obj} {od : Option Obj} {b tb : Value}
theorem cmpNe_own {Q : Value → Shared → Prop} (hu : A.units + 1 < cLine) (X : K.In s.heap) (I : InstAt s.heap x ox C od) (hb : Looks (model prog w) s.heap (typeOf b) tb) (hn : notFirst K C tb = true) (hne : findIn K (.ref C) "__ne__" = some (some (.builtin "object.__ne__"))) (ho : mroIn K C (.type "object") = some true)
    (hs : findIn K (.ref C) "__eq__" = some (some (.ref f))) (hf : isFn K (.ref f) = true) (h : wpAny (model prog w) A.in1 (call (.ref f) [.ref x, b]) (fun v s' => ∃ r, v = .bool r ∧ Q (.bool (!r)) s') E s) : wpAny (model prog w) A (richCompare .NotEq (.ref x) b) Q E s := by
  have asks : wpAny (model prog w) A (tryCompare (.ref x) (cmpInfo .NotEq).2.1 b) (fun o s' => ∃ v, o = some v ∧ Q v s') E s := tryNe_own X I hne ho hs hf hu (wpAny_mono h (fun v s' hv => by
    obtain ⟨r, e, hq⟩ := hv
    exact ⟨r, e, _, rfl, hq⟩) fun _ _ e => e)
  have done_ : ∀ {t : Option Value → Sem Value}, (∀ v s', Q v s' → wpAny (model prog w) A (t (some v)) Q E s') → wpAny (model prog w) A (tryCompare (.ref x) (cmpInfo .NotEq).2.1 b >>= t) Q E s := fun ht => wpAny_bind (wpAny_mono asks (fun o s' z => by
    obtain ⟨v, rfl, hq⟩ := z
    exact ht v s' hq) fun _ _ e => e)
  unfold richCompare
  simp only [oneThing_ref]
  refine wpAny_holding (wpAny_bind (wpAny_cRoomFor (Nat.lt_of_succ_lt hu) ?_))
  refine wpAny_bind (I.type.here (wpAny_bind (hb.here ?_)))
  split
  · rename_i q
    have lower : subIn K tb (.ref C) = some false := by
      rcases Bool.or_eq_true_iff.mp hn with e | e
      · rw [beq_iff_eq.mp e] at q; simp at q
      · exact beq_iff_eq.mp e
    refine wpAny_bind ((looks_subIn X lower).here ?_)
    simp only [Bool.false_eq_true, if_false]
    exact done_ fun v s' hq => wpAny_pure hq
  · refine wpAny_bind (wpAny_pure ?_)
    simp only [Bool.false_eq_true, if_false]
    exact done_ fun v s' hq => wpAny_pure hq
end
end PySem.W

set_option Elab.async false
set_option linter.all false
set_option maxRecDepth 100000
/-! own == and != of instances; isinstance of an own class; instances that nothing changes any more -/
namespace Kw
open PySem PySem.Spec PyProof.Rows L2
/-- an own class whose instances are compared by its own __eq__ -/
structure EqC (K : PySem.W.Frag) (mg : Str → Option Value) (cn : Str) (f : Addr) : Prop where
  ex : ∃ C, mg cn = some (.ref C) ∧ PySem.W.findIn K (.ref C) "__eq__" = some (some (.ref f)) ∧ PySem.W.isFn K (.ref f) = true ∧ PySem.W.findIn K (.ref C) "__ne__" = some (some (.builtin "object.__ne__")) ∧ PySem.W.mroIn K C (.type "object") = some true ∧ ∀ a ∈ tyL, PySem.W.notFirst K C (.type a) = true
def isC (cn : Str) (μ : Mem) (o : D) : Bool := match insOf μ o with
  | some (c, _) => decide (c = cn)
  | none => false
def eqO (cl : FM → List D → Mem → Out D) (m : FM) (cn : Str) (ng : Bool) (x y : D) (μ : Mem) : Option (D × Mem) := if (isC cn μ x && (isC cn μ y || (tyS μ y).isSome)) = true then (match cl m [x, y] μ with
    | .ok (.bl r) μ' => some (.bl (r != ng), μ')
    | _ => none)
  else none
/-- x == y, x != y of instances -/
def eEqO (cl : FM → List D → Mem → Out D) (m : FM) (cn : Str) (ng : Bool) (ma mb : EM) : EM := fun δ μ => (ma δ μ).bind fun x μ1 => (mb δ μ1).bind fun y μ2 => oOfM (eqO cl m cn ng x y μ2)
def rEqO (K : PySem.W.Frag) (mg : Str → Option Value) (T : List (Addr × Str)) (cl : FM → List D → Mem → Out D) (m : FM) (cn : Str) (ng : Bool) : R2 := fun x y H Q => ∃ w μ dx dy z μ', RelM K mg T w μ H ∧ RelD K mg w dx x ∧ RelD K mg w dy y ∧ eqO cl m cn ng dx dy μ = some (z, μ') ∧ Then1 K mg T w μ' Q z
section
variable {X : Cx} {S : SI} {W : WX} {j k : Nat} {cn : Str} {pos : Pos} {a b : Expr} {m : FM} {ma mb : EM} {cl : FM → List D → Mem → Out D} {f : Addr} {fd : FuncData} {ps : List Str}
theorem op_eqO {T : List (Addr × Str)} (E : EqC X.K X.mg cn f) (G : FnG X.prog X.w X.K X.mg X.base k f fd ps (spM X.K X.mg T 2 m)) (hb : ∀ (s : Shared) (u v : Value), BindsTo s fd ⟨[u, v], []⟩ (ps.zip [u, v])) (hcl : CallR cl) (hr : Room (k + 1) X.A) (hgd : X.A.guards = some []) (ng : Bool) :
    OpR X (compareOp (if ng = true then .NotEq else .Eq)) (rEqO X.K X.mg T cl m cn ng) := by
  intro pins s σ H x y v u Q I rx ry h
  obtain ⟨w, μ, dx, dy, z, μ', rm, rdx, rdy, e, q⟩ := h
  obtain ⟨C, hC, hs, hf, hne, ho, hnf⟩ := E.ex
  unfold eqO at e
  split at e
  · next hc =>
    rw [Bool.and_eq_true] at hc
    obtain ⟨hc1, hc2⟩ := hc
    have insX : ∀ {d : D} {v : V} {u : Value}, RelD X.K X.mg w d v → RelV v u → isC cn μ d = true → ∃ ad dx gs, v = .ref ad ∧ u = .ref ad ∧ H ad = some (.ins C dx gs) := fun {d v u} rd ru hi => by
      unfold isC at hi
      split at hi
      · next c fs q2 =>
        obtain rfl := of_decide_eq_true hi
        obtain ⟨ad, C', dxx, gs, rfl, k2, k3, k4⟩ := insOf_rel rm rd q2
        rw [hC] at k2
        cases k2
        exact ⟨ad, dxx, gs, rfl, ru, k3⟩
      · cases hi
    obtain ⟨ad, dxx, gs, rfl, rfl, hH⟩ := insX rdx rx hc1
    obtain ⟨mA, J, _⟩ := ins_get I.hok hH
    obtain ⟨od, J, _⟩ := J.look
    obtain ⟨tb, hb', hn⟩ : ∃ tb, PySem.W.Looks (model X.prog X.w) s.heap (typeOf u) tb ∧ PySem.W.notFirst X.K C tb = true := by
      rcases Bool.or_eq_true_iff.mp hc2 with h1 | h1
      · obtain ⟨bd, dyy, gs2, rfl, rfl, hH2⟩ := insX rdy ry h1
        obtain ⟨mB, J2, _⟩ := ins_get I.hok hH2
        obtain ⟨od2, J2, _⟩ := J2.look
        exact ⟨_, J2.type, by simp [PySem.W.notFirst]⟩
      · obtain ⟨ty, hty⟩ := Option.isSome_iff_exists.mp h1
        obtain ⟨t1, t2⟩ := tyS_rel rm rdy hty
        obtain ⟨P, kx, hp, _⟩ := kit_of I ry t1
        exact ⟨_, kx.ty _ _ I.kIn hp, hnf ty t2⟩
    have run : ∀ A', L2.Sub X k A' → A'.guards = some [] → wpAny (model X.prog X.w) A' (call (.ref f) [.ref ad, u]) (fun v s' => ∃ r, v = .bool r ∧ z = .bl (r != ng) ∧ ∃ H', Inv X pins σ H' s' ∧ Q (.bl (r != ng)) H') X.xe s := fun A' sb hA2 => by
      have e0 : Env0 X.prog X.w X.K X.mg X.base A' X.stack s H := by
        have e := I.env0
        exact ⟨by rw [sb.fr]; exact e.frames, e.mod, e.bs, e.bsz, e.funs, e.frf, e.hok, e.bare⟩
      refine call_of (codeAny_mono (G.run A' X.stack s H ⟨[.ref ad, u], []⟩ [.ref ad, u] [.ref ad, y] (fun v H' => ∃ r, v = .bl r ∧ z = .bl (r != ng) ∧ Q (.bl (r != ng)) H') (fun _ _ _ => False) sb.room hA2 e0 (hb s _ _) (.cons rfl (.cons ry .nil)) ?_) fun r s' hq => ?_)
      · refine hcl rfl rm (.cons rdx (.cons rdy .nil)) ?_
        split at e
        · next r μ2 e2 =>
          cases e
          rw [e2]
          intro w' v' H' le rm' rd'
          cases rd'
          exact ⟨r, rfl, rfl, q w' _ H' le rm' (.bl _)⟩
        · cases e
      · cases r with
        | error e =>
          obtain ⟨_, _, _, _, _, _, _, _, _, _, _, _, z⟩ := hq
          exact z.elim
        | ok fl =>
          cases fl with
          | ret u' =>
            obtain ⟨v', H', I3, rv, r, rfl, ez, q3⟩ := I.after hq
            cases rv
            exact ⟨r, rfl, ez, H', I3, q3⟩
          | next => exact False.elim hq
          | brk => exact False.elim hq
          | cont => exact False.elim hq
    cases ng with
    | false =>
      show wpAny (model X.prog X.w) X.A (richCompare .Eq (.ref ad) u) (EP X pins σ Q) X.xe s
      obtain ⟨mm, hF⟩ := I.fr
      refine PySem.W.cmp_K (op := .Eq) (hr.mono (Nat.le_succ k)).units0 hF I.ok.mod.kin J hb' hn hs hf (wpAny_mono (run X.A ⟨hr.mono (Nat.le_succ k), rfl⟩ hgd) (fun v s' hv => ?_) fun _ _ e => e)
      obtain ⟨r, rfl, ez, H', I', q'⟩ := hv
      refine ⟨_, H', I', ?_, q'⟩
      cases r <;> rfl
    | true =>
      show wpAny (model X.prog X.w) X.A (richCompare .NotEq (.ref ad) u) (EP X pins σ Q) X.xe s
      refine PySem.W.cmpNe_own (by have := hr.un; omega) I.kIn J hb' hn hne ho hs hf (wpAny_mono (run X.A.in1 ⟨hr.in1, rfl⟩ hgd) (fun v s' hv => ?_) fun _ _ e => e)
      obtain ⟨r, rfl, ez, H', I', q'⟩ := hv
      refine ⟨r, rfl, _, H', I', ?_, q'⟩
      cases r <;> rfl
  · cases e

structure EqD (P : Program) (w : World) (K : PySem.W.Frag) (mg : Str → Option Value) (base : Heap) (T : List (Addr × Str)) (cn : Str) (k : Nat) (m : FM) : Prop where
  ex : ∃ f fd ps, EqC K mg cn f ∧ FnG P w K mg base k f fd ps (spM K mg T 2 m) ∧ ∀ (s : Shared) (u v : Value), BindsTo s fd ⟨[u, v], []⟩ (ps.zip [u, v])
def eqcB (K : PySem.W.Frag) (cn : Str) : Bool := decide (PySem.W.findIn K (.ref (He.ga K cn)) "__ne__" = some (some (.builtin "object.__ne__"))) && (decide (PySem.W.mroIn K (He.ga K cn) (.type "object") = some true) && tyL.all fun a => PySem.W.notFirst K (He.ga K cn) (.type a))
theorem EqD.of {P : Program} {w : World} {K : PySem.W.Frag} {mg : Str → Option Value} {base : Heap} {T : List (Addr × Str)} {x y qual : Str} {st : Stmt} (M : MetD P w K mg base T cn "__eq__" qual st k [x, y] m) (g : mg cn = some (.ref (He.ga K cn))) (h : eqcB K cn = true)
    (hb : ∀ (kV doc pm : Value) (an : Option Addr) (cdv ct : Value) (us : List Value), us.length = 2 → bindArgs (PySem.W.fnOf "__eq__" qual (defArgs st) (defBody st) (defScope st) .none kV doc pm an cdv ct) ⟨us, []⟩ = pure ([x, y].zip us)) : EqD P w K mg base T cn k m := by
  obtain ⟨C, f, fd, hC, hc, hm, F, G⟩ := M.ex
  rw [g] at hC
  cases hC
  unfold eqcB at h
  rw [Bool.and_eq_true, Bool.and_eq_true, decide_eq_true_eq, decide_eq_true_eq] at h
  obtain ⟨h1, h2, h3⟩ := h
  exact ⟨f, fd, [x, y], ⟨_, g, hm.at_, hm.fn, h1, h2, fun a ha => List.all_eq_true.mp h3 a ha⟩, G, fun s u v => F.bindsA (ps := [x, y]) hb s [u, v] rfl⟩
theorem pe_eqO1 (E : EqD X.prog X.w X.K X.mg X.base S.T cn k m) (hcl : CallR cl) (hr : Room j X.A) (hk : k + 1 ≤ j) (hgd : X.A.guards = some []) (ha : PE X a (TEm X S W ma)) (hb : PE X b (TEm X S W mb)) : PE X (.Compare a [.Eq] [b] pos) (TEm X S W <| eEqO cl m cn false ma mb) := by
  obtain ⟨f, fd, ps, E, G, hbi⟩ := E.ex
  exact PEi (pe_cmpR (op_eqO E G hbi hcl (hr.mono hk) hgd false) ha hb (nomark b)) fun σ H Q ⟨w, δ, μ, h⟩ => ⟨w, δ, μ, (At.bind h).mono fun x H1 ⟨w1, μ1, d, le, rd, h1⟩ => ⟨w1, δ, μ1, (At.bind h1).mono fun y H2 ⟨w2, μ2, f, le2, re, h2⟩ => by
    obtain ⟨z, μ3, e, q⟩ := h2.optM
    exact ⟨w2, μ2, d, f, z, μ3, h2.2.1, rd.mono le2, re, e, q⟩⟩⟩
theorem pe_neO1 (E : EqD X.prog X.w X.K X.mg X.base S.T cn k m) (hcl : CallR cl) (hr : Room j X.A) (hk : k + 1 ≤ j) (hgd : X.A.guards = some []) (ha : PE X a (TEm X S W ma)) (hb : PE X b (TEm X S W mb)) : PE X (.Compare a [.NotEq] [b] pos) (TEm X S W <| eEqO cl m cn true ma mb) := by
  obtain ⟨f, fd, ps, E, G, hbi⟩ := E.ex
  exact PEi (pe_cmpR (op_eqO E G hbi hcl (hr.mono hk) hgd true) ha hb (nomark b)) fun σ H Q ⟨w, δ, μ, h⟩ => ⟨w, δ, μ, (At.bind h).mono fun x H1 ⟨w1, μ1, d, le, rd, h1⟩ => ⟨w1, δ, μ1, (At.bind h1).mono fun y H2 ⟨w2, μ2, f, le2, re, h2⟩ => by
    obtain ⟨z, μ3, e, q⟩ := h2.optM
    exact ⟨w2, μ2, d, f, z, μ3, h2.2.1, rd.mono le2, re, e, q⟩⟩⟩
theorem pt_cmpO {op : CmpOp} {T : List (Addr × Str)} {ng : Bool} (hT : T = S.T) (ho : OpR X (compareOp op) (rEqO X.K X.mg T cl m cn ng)) (hm : behindInMarks op b = false) (ha : PE X a (TEm X S W ma)) (hb : PE X b (TEm X S W mb)) :
    PT X (.Compare a [op] [b] pos) (TTm X S W <| tBl (eEqO cl m cn ng ma mb)) :=
  PTi (pt_cmpR ho ha hb hm) fun σ H Q ⟨w, δ, μ, h⟩ => ⟨w, δ, μ, (At.bind (R := RelD X.K X.mg) (R' := fun _ (a b : Bool) => a = b) (Q := Q) (o := ma δ μ) (f := fun x μ1 => ((mb δ μ1).bind fun y μ2 => oOfM (eqO cl m cn ng x y μ2)).bind fun d μ1 => match d with
      | .bl b => .ok b μ1
      | _ => .stuck) (by unfold tBl eEqO at h; cases q : ma δ μ <;> rw [q] at h <;> exact h)).mono fun x H1 ⟨w1, μ1, d, le, rd, h1⟩ => ⟨w1, δ, μ1, (At.bind (R := RelD X.K X.mg) (R' := fun _ (a b : Bool) => a = b) (Q := Q) (o := mb δ μ1) (f := fun y μ2 => (oOfM (eqO cl m cn ng d y μ2)).bind fun d μ1 => match d with
      | .bl b => .ok b μ1
      | _ => .stuck) (by cases q : mb δ μ1 <;> rw [q] at h1 <;> exact h1)).mono fun y H2 ⟨w2, μ2, f, le2, re, h2⟩ => by
    subst hT
    cases q : eqO cl m cn ng d f μ2 with
    | none => rw [q] at h2; exact h2.2.2.elim
    | some zz =>
      obtain ⟨z, μ3⟩ := zz
      rw [q] at h2
      have h3 := h2.2.2
      cases z with
      | bl k =>
        refine ⟨w2, μ2, d, f, _, μ3, h2.2.1, rd.mono le2, re, q, fun w' v H' le' rm rv => ?_⟩
        cases rv
        exact ⟨k, rfl, h3 w' k H' le' rm rfl⟩
      | _ => exact h3.elim⟩⟩
theorem pt_eqO1 (E : EqD X.prog X.w X.K X.mg X.base S.T cn k m) (hcl : CallR cl) (hr : Room j X.A) (hk : k + 1 ≤ j) (hgd : X.A.guards = some []) (ha : PE X a (TEm X S W ma)) (hb : PE X b (TEm X S W mb)) : PT X (.Compare a [.Eq] [b] pos) (TTm X S W <| tBl (eEqO cl m cn false ma mb)) := by
  obtain ⟨f, fd, ps, E, G, hbi⟩ := E.ex
  exact pt_cmpO rfl (op_eqO E G hbi hcl (hr.mono hk) hgd false) (nomark b) ha hb
theorem pt_neO1 (E : EqD X.prog X.w X.K X.mg X.base S.T cn k m) (hcl : CallR cl) (hr : Room j X.A) (hk : k + 1 ≤ j) (hgd : X.A.guards = some []) (ha : PE X a (TEm X S W ma)) (hb : PE X b (TEm X S W mb)) : PT X (.Compare a [.NotEq] [b] pos) (TTm X S W <| tBl (eEqO cl m cn true ma mb)) := by
  obtain ⟨f, fd, ps, E, G, hbi⟩ := E.ex
  exact pt_cmpO rfl (op_eqO E G hbi hcl (hr.mono hk) hgd true) (nomark b) ha hb
/-! isinstance -/
structure IsC (K : PySem.W.Frag) (mg : Str → Option Value) (cn : Str) : Prop where
  ex : ∃ C, mg cn = some (.ref C) ∧ Cls K C ∧ PySem.W.findIn K (.ref C) "__class__" = some (some (.builtin "object.__class__")) ∧ PySem.W.specialIn K (.builtin "object.__class__") "__get__" = some (some (.builtin "getset_descriptor.__get__")) ∧ PySem.W.takesIn K (.builtin "object.__class__") = some true ∧
    PySem.W.mroIn K C (.type "object") = some true ∧ PySem.W.kitOne K (.ref C) (.ref C) = some true ∧ ∀ a ∈ tyL, PySem.W.kitOne K (.type a) (.ref C) = some false
def iscB (K : PySem.W.Frag) (cn : Str) : Bool := decide (PySem.W.findIn K (.ref (He.ga K cn)) "__class__" = some (some (.builtin "object.__class__"))) && (decide (PySem.W.specialIn K (.builtin "object.__class__") "__get__" = some (some (.builtin "getset_descriptor.__get__"))) && (decide (PySem.W.takesIn K (.builtin "object.__class__") = some true) &&
  (decide (PySem.W.mroIn K (He.ga K cn) (.type "object") = some true) && (decide (PySem.W.kitOne K (.ref (He.ga K cn)) (.ref (He.ga K cn)) = some true) && tyL.all fun a => decide (PySem.W.kitOne K (.type a) (.ref (He.ga K cn)) = some false)))))
theorem IsC.of {K : PySem.W.Frag} {mg : Str → Option Value} (g : mg cn = some (.ref (He.ga K cn))) (c : Cls K (He.ga K cn)) (h : iscB K cn = true) : IsC K mg cn := by
  unfold iscB at h
  simp only [Bool.and_eq_true, decide_eq_true_eq] at h
  obtain ⟨h1, h2, h3, h4, h5, h6⟩ := h
  exact ⟨_, g, c, h1, h2, h3, h4, h5, fun a ha => of_decide_eq_true (List.all_eq_true.mp h6 a ha)⟩
def gIsiC (cn : Str) (x : D) (μ : Mem) : Option D := match insOf μ x with
  | some (c, _) => if c = cn then some (.bl true) else none
  | none => match tyS μ x with
    | some _ => some (.bl false)
    | none => none
theorem pe_isiC {p p' : Pos} (I : IsC X.K X.mg cn) (hg : Gl X "isinstance") (hm : X.mg "isinstance" = none) (hgc : Gl X cn) (ha : PE X a (TEm X S W ma)) (hcd : (cn == ("__debug__" : Str)) = false := by decide)
    (he : starEach (a :: [.Name cn p']) X.env = (false, eval a X.env) :: starEach [.Name cn p'] X.env := by rfl) (hpl : (backTo pos (starEach [.Name cn p'] X.env)).any (·.1) = false := by rfl) (he2 : starEach (.Name cn p' :: []) X.env = (false, eval (.Name cn p') X.env) :: starEach [] X.env := by rfl) :
    PE X (.Call (.Name "isinstance" p) [a, .Name cn p'] [] pos) (TEm X S W <| e1 (gIsiC cn) ma) := by
  obtain ⟨C, hC, hc, i1, i2, i3, i4, i5, i6⟩ := I.ex
  exact PEi (pe_callB call_isi hg hm (by decide +kernel) (pa_cons ha (pa_cons (pe_glob hgc hC (v := .ref C) rfl hcd) pa_nil he2) he) (by decide) (by decide) he hpl) fun σ H Q ⟨w, δ, μ, h⟩ => ⟨w, δ, μ, (At.bind h).mono fun x H1 ⟨w1, μ1, d, le, rd, h1⟩ => by
    obtain ⟨z, e, q⟩ := h1.opt
    unfold gIsiC at e
    split at e
    · next c fs hi =>
      split at e
      · next ec =>
        subst ec
        cases e
        obtain ⟨ad, C', dx, gs, rfl, k2, k3, k4⟩ := insOf_rel h1.2.1 rd hi
        rw [hC] at k2
        cases k2
        exact ⟨_, .ref C, .ref C, .ref C, true, rfl, .own C, .base (.ins k3 hc i1 i2 i3 i4), i5, q.same h1.2.1 (.bl _)⟩
      · cases e
    · split at e
      · next ty hty =>
        cases e
        obtain ⟨t1, t2⟩ := tyS_rel h1.2.1 rd hty
        exact ⟨x, .ref C, _, .ref C, false, rfl, .own C, t1, i6 ty t2, q.same h1.2.1 (.bl _)⟩
      · cases e⟩
end
/-! ### instances that nothing changes any more: __init__ sees no place of the caller -/
def mkPe (cn : Str) (sc : Bool) (μ : Mem) : Out D → Out D
  | .ok .non μ' => match (μ'[(0 : Nat)]? : Option Ob) with
    | some (.ins c fs) => if c = cn ∧ locBs sc 0 (fs.map (·.2)) = true then .ok (.ins cn (fs.map (·.1)) (fs.map (·.2))) μ else .stuck
    | _ => .stuck
  | .exc x _ => if locBs sc 0 (x.fs.map (·.2)) = true then .exc x μ else .stuck
  | _ => .stuck
def mkP (m : FM) (cn : Str) (g : List D → List D → List D) (ds es : List D) (μ : Mem) : Out D := if (locBs false 0 ds && locBs false 0 es) = true then mkPe cn false μ (m (g (.loc 0 :: ds) es) [.ins cn []])
  else match frzWs (frzL μ 4) ds, frzWs (frzL μ 4) es with
    | some ds', some es' => mkPe cn true μ (m (g (.loc 0 :: ds') es') [.ins cn []])
    | _, _ => .stuck
def eMakeP (m : FM) (cn : Str) (g : List D → List D → List D) (mr mk : AM) : EM := fun δ μ => (mr δ μ).bind fun ds μ1 => (mk δ μ1).bind fun es μ2 => mkP m cn g ds es μ2
section
variable {K : PySem.W.Frag} {mg : Str → Option Value} {T : List (Addr × Str)} {w0 w wb : Wd} {μ : Mem} {H : Hp} {Q : VK} {E : XK} {C x dx : Addr} {sc : Bool} {out : Out D} {cn : Str}
theorem mkPe_rel (hC : mg cn = some (.ref C)) (rb : RelM K mg T wb [] H) (hx : H x = none) (hd : H dx = none) (hne : dx ≠ x) (back : ∀ {w1 : Wd} {μ1 : Mem} {H1 : Hp}, wb.Le w1 → RelM K mg T w1 μ1 H1 → w0.Le (w.back w1) ∧ RelM K mg T (w.back w1) μ H1 ∧ Into sc 0 w1 (w.back w1))
    (h : FTo K mg T w0 Q E (mkPe cn sc μ out)) : RelM K mg T (wb.put x) [.ins cn []] (upd (upd H dx (.own x)) x (.ins C dx [])) ∧ RelD K mg (wb.put x) (.loc 0) (.ref x) ∧ FTo K mg T (wb.put x) (fun v H2 => v = .non ∧ Q (.ref x) H2) E out := by
  have r1 := rb.ext (o := .own x) hd
  have hx1 : upd H dx (.own x) x = none := by rw [upd_ne (fun e => hne e.symm)]; exact hx
  have r2 := r1.put hx1 (o := .ins C dx []) (b := .ins cn []) (.ins hC ⟨rfl, .nil⟩)
  have n0 : wb.n = 0 := rb.n
  have rl : RelD K mg (wb.put x) (.loc 0) (.ref x) := by
    have := RelD.loc (K := K) (mg := mg) (w := wb.put x) (l := 0) (by show 0 < wb.n + 1; omega)
    rwa [← n0, Wd.put_at, n0] at this
  refine ⟨r2, rl, ?_⟩
  have ple := wb.put_le x
  have xat : ∀ {w' : Wd}, (wb.put x).Le w' → w'.ρ 0 = x := fun {w'} le => by
    have := le.ρ 0 (by show 0 < wb.n + 1; omega)
    rw [this, ← n0, Wd.put_at]
  cases out with
  | stuck => exact h
  | exc e μ' =>
    intro w' c dd H' le rm rx
    unfold mkPe at h
    simp only at h
    split at h
    · next hc =>
      obtain ⟨b1, b2, b3⟩ := back (ple.trans le) rm
      exact h _ c dd H' b1 b2 (rx.into b3 hc)
    · exact h.elim
  | ok d μ' =>
    intro w' v H' le rm rd
    cases d with
    | non =>
      cases rd
      refine ⟨rfl, ?_⟩
      unfold mkPe at h
      simp only at h
      split at h
      · next c fs q =>
        split at h
        · next hc =>
          obtain ⟨rfl, hc1⟩ := hc
          obtain ⟨q1, q2⟩ := rm.ob _ _ q
          generalize hH : H' (w'.ρ 0) = oo at q1
          cases q1 with
          | ins g rf =>
            obtain ⟨le2, rm2⟩ := rm.freeze q nofun hH
            obtain ⟨b1, b2, b3⟩ := back (ple.trans (le.trans le2)) rm2
            refine h _ _ _ b1 b2 ?_
            rw [← xat le]
            exact .ins g upd_same rf.1.symm (RelDs.into b3 _ _ (RelDs.mono le2 rf.2) hc1)
        · exact h.elim
      · exact h.elim
    | _ => exact h.elim
end
section
variable {X : Cx} {S : SI} {W : WX} {j k a b : Nat} {ps ks : List Str} {cn qual : Str} {st : Stmt} {pos p : Pos} {es : List Expr} {kws : List Keyword} {m : FM} {mr mk : AM} {gD : List D → List D → List D} {gV : List V → List V → List V} {gU : List Value → List Value → List Value}
theorem pe_makeP (C : IniD X.prog X.w X.K X.mg X.base S.T cn qual st k ps m) (hx : ∀ σ, PassesAt (L2.CX X.prog X.w) X σ (WE W σ)) (hr : Room j X.A) (hk : k + 1 ≤ j) (hgd : X.A.guards = some []) (hg : Gl X cn) (cw : CWA X pos es kws ks (TAm X S W mr) (TAm X S W mk))
    (kg : KG (a + 1) b ps.length gD gV gU) (hb : ∀ (kV doc pm : Value) (an : Option Addr) (cdv ct : Value) (us ws : List Value), us.length = a + 1 → ws.length = b → bindArgs (PySem.W.fnOf "__init__" qual (defArgs st) (defBody st) (defScope st) .none kV doc pm an cdv ct) ⟨us, ks.zip ws⟩ = pure (ps.zip (gU us ws)))
    (hn : ∀ δ μ ds μ', mr δ μ = .ok ds μ' → ds.length = a) (hn2 : ∀ δ μ ds μ', mk δ μ = .ok ds μ' → ds.length = b) (hdb : (cn == ("__debug__" : Str)) = false := by decide) :
    PE X (.Call (.Name cn p) es kws pos) (TEm X S W <| eMakeP m cn gD mr mk) := by
  obtain ⟨C, f, fd, hC, M, F, G⟩ := C.ex
  refine ⟨fun pins s σ H Q I ⟨w, δ, μ, h⟩ => ?_⟩
  refine wpAny_Call_Name_kw (ld_glob I hg hC ?_ hdb)
  refine cw.run (first := []) (R := fun vs zs H2 => vs.length = a ∧ zs.length = b ∧ ∀ x dx, H2 x = none → H2 dx = none → dx ≠ x → spM X.K X.mg S.T ps.length m (gV (.ref x :: vs) zs) (upd (upd H2 dx (.own x)) x (.ins C dx [])) (fun v H3 => v = .non ∧ Q (.ref x) H3) (WE W σ)) M.kp I ⟨w, δ, μ, h.1, h.2.1, ?_⟩ fun us ws vs zs H2 s2 I2 r rz ⟨l1, l2, q2⟩ => ?_
  · have h3 := h.2.2
    unfold eMakeP at h3
    cases e : mr δ μ with
    | stuck => rw [e] at h3; exact h3.elim
    | exc x μ' => rw [e] at h3; exact h3
    | ok ds μ' =>
      rw [e] at h3
      intro w' vs H' le' rm rs
      refine ⟨w', δ, μ', h.1.mono le', rm, ?_⟩
      have h4 : ((mk δ μ').bind fun es μ2 => mkP m cn gD ds es μ2).to _ _ := h3
      cases e2 : mk δ μ' with
      | stuck => rw [e2] at h4; exact h4.elim
      | exc x μ2 => rw [e2] at h4; exact fun w2 c d H2 le2 => h4 w2 c d H2 (le'.trans le2)
      | ok es μ2 =>
        rw [e2] at h4
        intro w2 us H2 le2 rm2 rs2
        have l1 := hn _ _ _ _ e
        have l2 := hn2 _ _ _ _ e2
        refine ⟨by rw [← rs.length]; exact l1, by rw [← rs2.length]; exact l2, fun x dx hx' hd' hne => ?_⟩
        have h5 : FTo X.K X.mg S.T w2 Q (WE W σ) (mkP m cn gD ds es μ2) := Out.to_mono h4 (fun d μ2 q w3 v2 H2 le3 => q w3 v2 H2 ((le'.trans le2).trans le3)) fun x μ2 q w3 c d H2 le3 => q w3 c d H2 ((le'.trans le2).trans le3)
        unfold mkP at h5
        split at h5
        · next hlo =>
          rw [Bool.and_eq_true] at hlo
          have ap : Into false 0 w2 (w2.apart H2) := ⟨fun _ _ h => h, fun _ => rfl, fun l h => absurd h (Nat.not_lt_zero _)⟩
          obtain ⟨r1, r2, r3⟩ := mkPe_rel (w0 := w2) (w := w2) (E := WE W σ) hC rm2.apart hx' hd' hne (fun {w1 μ1 H1} le rm => by
            obtain ⟨c1, c2⟩ := rm2.back_apart le rm
            exact ⟨c1, c2, ⟨fun _ _ h => h, fun _ => le.fr.symm, fun l h => absurd h (Nat.not_lt_zero _)⟩⟩) h5
          have rr := kg.relD (.cons r2 ((RelDs.into ap _ _ (rs.mono le2) hlo.1).mono ((w2.apart H2).put_le x))) ((RelDs.into ap _ _ rs2 hlo.2).mono ((w2.apart H2).put_le x))
          exact ⟨by rw [← rr.length]; exact kg.len _ _ (by rw [List.length_cons, l1]) l2, _, _, _, r1, rr, r3⟩
        · split at h5
          · next ds' es' f1 f2 =>
            obtain ⟨r1, r2, r3⟩ := mkPe_rel (w0 := w2) (w := w2) (E := WE W σ) hC rm2.lend hx' hd' hne (fun {w1 μ1 H1} le rm => by
              obtain ⟨c1, c2⟩ := rm2.back_lend le rm
              exact ⟨c1, c2, ⟨fun _ _ h => h, (fun h => nomatch h), fun l h => absurd h (Nat.not_lt_zero _)⟩⟩) h5
            have g1 := frzWs_rel rm2 (frzL_rel rm2 4) _ _ _ (rs.mono le2) f1
            have g2 := frzWs_rel rm2 (frzL_rel rm2 4) _ _ _ rs2 f2
            have rr := kg.relD (.cons r2 (g1.mono ((w2.lend H2).put_le x))) (g2.mono ((w2.lend H2).put_le x))
            have m1 : ds'.length = a := by rw [g1.length, ← (rs.mono le2).length]; exact l1
            have m2 : es'.length = b := by rw [g2.length, ← rs2.length]; exact l2
            exact ⟨by rw [← rr.length]; exact kg.len _ _ (by rw [List.length_cons, m1]) m2, _, _, _, r1, rr, r3⟩
          · exact h5.elim
  · exact run_makeG M G (hr.mono hk) hgd (hx σ) gU (fun s x _ => bindsG F hb s (.ref x :: us) ws (by rw [List.length_cons, ← r.length, l1]) (by rw [← rz.length]; exact l2)) (fun x => gV (.ref x :: vs) zs) (fun x => kg.relV (vs := .ref x :: vs) (us := .ref x :: us) (.cons rfl r) rz) I2 q2
end
end Kw

set_option Elab.async false
set_option linter.all false
set_option maxRecDepth 100000
namespace K05
open PySem PySem.Spec PyProof.Rows L2 Kw
def d_MOST_CELL : D := .int 257
def d_CELL : D := .int 257
def d_MOST_SUMS : D := .int 8
def d_MOST_DATA : D := .int 12
def fldTab : FlT := [("Table", "rows"), ("Table", "data"), ("Table", "sums")]
def exTab : ExT := [(("Refused", "Refused"), true)]
def m_is_integer : SM := (sRet (eAndM (e1 (gIsi ["int"]) (eVar 0)) (eNotM (e1 (gIsi ["bool"]) (eVar 0)))))
def f_is_integer : FM := bodyM 1 m_is_integer
def m_is_number : SM := (sRet (eAndM (eCallP f_is_integer (aCons (eVar 0) aNil)) (e2 gGe (eVar 0) (eC (.int 0)))))
def f_is_number : FM := bodyM 1 m_is_number
def m_is_below : SM := (sRet (eAndM (eCallP f_is_number (aCons (eVar 0) aNil)) (e2 gLt (eVar 0) (eVar 1))))
def f_is_below : FM := bodyM 2 m_is_below
def m_is_sequence : SM := (sRet (e1 (gIsi ["list", "tuple"]) (eVar 0)))
def f_is_sequence : FM := bodyM 1 m_is_sequence
def m_is_block : SM := (sRet (eAndM (eCallP f_is_sequence (aCons (eVar 0) aNil)) (eAndM (e2 gEq (eAs gLen (aCons (eVar 0) aNil)) (eVar 1)) (eAs gAll (aCons (eLc (iSeq (eVar 0)) (gNm 2) tYesM (eCallP f_is_below (aCons (eVar 2) (aCons (eC d_MOST_CELL) aNil))) [2]) aNil)))))
def f_is_block : FM := bodyM 3 m_is_block
def m_product : SM := (sRet (e2 gMod (eAs gSum (aCons (eLc (iZip2 (aCons (eVar 0) (aCons (eVar 1) aNil))) (gSeq 2 (gsCons (gNm 2) (gsCons (gNm 3) gsNil))) tYesM (e2 gMul (eVar 2) (eVar 3)) [2, 3]) aNil)) (eC d_CELL)))
def f_product : FM := bodyM 4 m_product
def m_check_table : SM := (sSeq (sIf (tOrM (tNotM (tTru (eCallP f_is_sequence (aCons (eVar 0) aNil)))) (tOrM (tNotM (tBl (eChn gLe gLe (eC (.int 1)) (eAs gLen (aCons (eVar 0) aNil)) (eC d_MOST_SUMS)))) (tNotM (tTru (eCallP f_is_sequence (aCons (e2 gIx (eVar 0) (eC (.int 0))) aNil)))))) (sRaise "Refused" "at" (eVar 0)) sNext) (sSeq (sAsg (eAs gLen (aCons (e2 gIx (eVar 0) (eC (.int 0))) aNil)) (gNm 1)) (sSeq (sIf (tOrM (tNotM (tBl (eChn gLe gLe (eC (.int 1)) (eVar 1) (eC d_MOST_DATA)))) (tNotM (tTru (eAs gAll (aCons (eLc (iSeq (eVar 0)) (gNm 2) tYesM (eCallP f_is_block (aCons (eVar 2) (aCons (eVar 1) aNil))) [2]) aNil))))) (sRaise "Refused" "at" (eVar 0)) sNext) (sRet (eAs gTuple (aCons (eLc (iSeq (eVar 0)) (gNm 2) tYesM (eAs gTuple (aCons (eVar 2) aNil)) [2]) aNil))))))
def f_check_table : FM := bodyM 3 m_check_table
def m_Table___init__ : SM := (sSeq (sFldM fldTab "rows" (eVar 0) (eCallP f_check_table (aCons (eVar 1) aNil))) (sSeq (sFldM fldTab "data" (eVar 0) (eAs gLen (aCons (e2 gIx (e1 (gFld fldTab "rows") (eVar 0)) (eC (.int 0))) aNil))) (sFldM fldTab "sums" (eVar 0) (eAs gLen (aCons (e1 (gFld fldTab "rows") (eVar 0)) aNil)))))
def f_Table___init__ : FM := bodyM 2 m_Table___init__
def m_Table___eq__ : SM := (sRet (eAndM (e1 (gIsiC "Table") (eVar 1)) (e2 gEq (e1 (gFld fldTab "rows") (eVar 0)) (e1 (gFld fldTab "rows") (eVar 1)))))
def f_Table___eq__ : FM := bodyM 2 m_Table___eq__
def m_need_many : SM := (sSeq (sIf (tOrM (tNotM (tTru (eCallP f_is_below (aCons (eVar 0) (aCons (e2 gAdd (eVar 1) (eC (.int 1))) aNil))))) (tBl (e2 gEq (eVar 0) (eC (.int 0))))) (sRaise "Refused" "at" (eVar 0)) sNext) (sRet (eVar 0)))
def f_need_many : FM := bodyM 2 m_need_many
def m_points_table : SM := (sSeq (sIf (tOrM (tNotM (tTru (eCallP f_is_sequence (aCons (eVar 0) aNil)))) (tOrM (tNotM (tBl (eChn gLe gLe (eC (.int 1)) (eAs gLen (aCons (eVar 0) aNil)) (eC d_MOST_DATA)))) (tNotM (tTru (eCallP f_is_block (aCons (eVar 0) (aCons (eAs gLen (aCons (eVar 0) aNil)) aNil))))))) (sRaise "Refused" "at" (eVar 0)) sNext) (sSeq (sAsg (eAsM gNewL aNil) (gNm 2)) (sSeq (sAsg (e2 gRepA (eAs gTupD (aCons (eC (.int 1)) aNil)) (eAs gLen (aCons (eVar 0) aNil))) (gNm 3)) (sSeq (sFor (iRange1 (aCons (eCallP f_need_many (aCons (eVar 1) (aCons (eC d_MOST_SUMS) aNil))) aNil)) (gNm 4) (sSeq (sDrop (eMtL gAppend (eVar 2) (aCons (eVar 3) aNil))) (sAsg (eAs gTuple (aCons (eLc (iZip2 (aCons (eVar 3) (aCons (eVar 0) aNil))) (gSeq 2 (gsCons (gNm 5) (gsCons (gNm 6) gsNil))) tYesM (e2 gMod (e2 gMul (eVar 5) (eVar 6)) (eC d_CELL)) [5, 6]) aNil)) (gNm 3)))) (sSeq (sFrz 2) (sRet (eMakeP f_Table___init__ "Table" gPos (aCons (eVar 2) aNil) aNil)))))))
def f_points_table : FM := bodyM 7 m_points_table
def m_power_table : SM := (sRet (eCallP f_points_table (aCons (eLc (iRange1 (aCons (eCallP f_need_many (aCons (eVar 0) (aCons (eC d_MOST_DATA) aNil))) aNil)) (gNm 2) tYesM (e2 gAdd (e2 gMul (eC (.int 2)) (eVar 2)) (eC (.int 1))) [2]) (aCons (eVar 1) aNil))))
def f_power_table : FM := bodyM 3 m_power_table
def m_sums_of_cells : SM := (sSeq (sIf (tNotM (tTru (eCallP f_is_block (aCons (eVar 1) (aCons (e1 (gFld fldTab "data") (eVar 0)) aNil))))) (sRaise "Refused" "at" (eVar 1)) sNext) (sRet (eAs gTuple (aCons (eLc (iSeq (e1 (gFld fldTab "rows") (eVar 0))) (gNm 2) tYesM (eCallP f_product (aCons (eVar 2) (aCons (eVar 1) aNil))) [2]) aNil))))
def f_sums_of_cells : FM := bodyM 3 m_sums_of_cells
def m__law_box : SM := (sSeq (sAsg (e2 gAdd (e2 gMul (eC (.int 7103)) (eVar 1)) (eC (.int 1049))) (gNm 2)) (sSeq (sIf (tBl (e2 gLt (eVar 1) (eAs gLen (aCons (eVar 0) aNil)))) (sAsg (eAs gAbs (aCons (eAs gInt (aCons (e2 gIx (eVar 0) (eVar 1)) aNil)) aNil)) (gNm 2)) (sIf (tBl (e2 gGt (eAs gLen (aCons (eVar 0) aNil)) (eC (.int 0)))) (sAsg (e2 gAdd (eVar 2) (e2 gMul (e2 gMod (eAs gInt (aCons (eAs gAbs (aCons (eAs gInt (aCons (e2 gIx (eVar 0) (e2 gMod (eAs gInt (aCons (eVar 1) aNil)) (eAs gLen (aCons (eVar 0) aNil)))) aNil)) aNil)) aNil)) (eC (.int 2147483587))) (eC (.int 52859)))) (gNm 2)) sNext)) (sSeq (sAsg (eIfM (tBl (e2 gGe (eVar 2) (e2 gPow (eC (.int 10)) (eC (.int 18))))) (eVar 2) (eC (.int 0))) (gNm 3)) (sRet (eAsM gNewL (aCons (eVar 3) (aCons (e2 gAdd (e2 gMod (eAs gInt (aCons (e2 gAdd (e2 gMul (e2 gMod (eAs gInt (aCons (eVar 2) aNil)) (eC (.int 2147483587))) (eC (.int 69069))) (e2 gMul (eC (.int 1049)) (eVar 1))) aNil)) (eC (.int 2147483587))) (eC (.int 1))) aNil)))))))
def f__law_box : FM := bodyM 4 m__law_box
def m__law_take : SM := (sSeq (sIf (tBl (e2 gGt (e2 gIx (eVar 0) (eC (.int 0))) (eC (.int 0)))) (sSeq (sAsg (e2 gMod (eAs gInt (aCons (e2 gIx (eVar 0) (eC (.int 0))) aNil)) (eVar 1)) (gNm 2)) (sSeq (sAsg (e2 gFdv (e2 gIx (eVar 0) (eC (.int 0))) (eVar 1)) (gSubM (eVar 0) (eC (.int 0)))) (sRet (eVar 2)))) sNext) (sSeq (sAsg (e2 gMod (eAs gInt (aCons (e2 gAdd (e2 gMul (e2 gIx (eVar 0) (eC (.int 1))) (eC (.int 40692))) (eC (.int 97))) aNil)) (eC (.int 2147483399))) (gNm 3)) (sSeq (sAsg (e2 gAdd (e2 gMod (eAs gInt (aCons (e2 gAdd (e2 gMul (eVar 3) (eC (.int 40014))) (eC (.int 11))) aNil)) (eC (.int 2147483587))) (eC (.int 1))) (gSubM (eVar 0) (eC (.int 1)))) (sRet (e2 gMod (eAs gInt (aCons (e2 gFdv (e2 gAdd (e2 gMul (eVar 3) (eC (.int 2147483629))) (e2 gIx (eVar 0) (eC (.int 1)))) (eC (.int 8209))) aNil)) (eVar 1))))))
def f__law_take : FM := bodyM 4 m__law_take
def m__law_pick : SM := (sRet (e2 gIx (eVar 1) (eCallM f__law_take (aCons (eVar 0) (aCons (eAs gLen (aCons (eVar 1) aNil)) aNil)))))
def f__law_pick : FM := bodyM 2 m__law_pick
def m__law_rows : SM := (sSeq (sPar 3 4 (aCons (eAsM gNewL aNil) (aCons (eAsM gNewL aNil) aNil))) (sSeq (sFor (iRange1 (aCons (eVar 2) aNil)) (gNm 5) (sDrop (eMtL gAppend (eVar 3) (aCons (eCallM f__law_pick (aCons (eVar 0) (aCons (eAs gLstD (aCons (e2 gAdd (e2 gMul (eC (.int 2)) (eVar 5)) (eC (.int 1))) (aCons (e2 gAdd (eC (.int 1)) (eCallM f__law_take (aCons (eVar 0) (aCons (eC (.int 40)) aNil)))) (aCons (eCallM f__law_take (aCons (eVar 0) (aCons (eC (.int 257)) aNil))) aNil)))) aNil))) aNil)))) (sSeq (sFrz 3) (sSeq (sAsg (e2 gRepA (eAs gLstD (aCons (eC (.int 1)) aNil)) (eVar 2)) (gNm 6)) (sSeq (sFor (iRange1 (aCons (eVar 1) aNil)) (gNm 7) (sSeq (sDrop (eMtL gAppend (eVar 4) (aCons (eAs gTuple (aCons (eVar 6) aNil)) aNil))) (sAsg (eLc (iZip2 (aCons (eVar 6) (aCons (eVar 3) aNil))) (gSeq 2 (gsCons (gNm 8) (gsCons (gNm 9) gsNil))) tYesM (e2 gMod (eAs gInt (aCons (e2 gMul (eVar 8) (eVar 9)) aNil)) (eC (.int 257))) [8, 9]) (gNm 6)))) (sSeq (sIf (tBl (e2 gEq (eCallM f__law_take (aCons (eVar 0) (aCons (eC (.int 3)) aNil))) (eC (.int 0)))) (sAsg (eLcN true (nOf (iRange1 (aCons (eVar 1) aNil))) (gNm 7) tYesM (eAs gTuple (aCons (eLc (iRange1 (aCons (eVar 2) aNil)) (gNm 5) tYesM (eCallM f__law_take (aCons (eVar 0) (aCons (eC (.int 257)) aNil))) [5]) aNil)) [7]) (gNm 4)) sNext) (sSeq (sFrz 4) (sRet (eAs gTupD (aCons (eAs gTuple (aCons (eVar 3) aNil)) (aCons (eVar 4) aNil)))))))))))
def f__law_rows : FM := bodyM 10 m__law_rows
def m__law_sums : SM := (sRet (eAs gTuple (aCons (eLc (iSeq (eVar 0)) (gNm 2) tYesM (e2 gMod (eAs gInt (aCons (eAs gSum (aCons (eLc (iZip2 (aCons (eVar 2) (aCons (eVar 1) aNil))) (gSeq 2 (gsCons (gNm 3) (gsCons (gNm 4) gsNil))) tYesM (e2 gMul (eVar 3) (eVar 4)) [3, 4]) aNil)) aNil)) (eC (.int 257))) [2]) aNil)))
def f__law_sums : FM := bodyM 5 m__law_sums
def m__law_refused (ask : AskM) : SM := (sSeq (sTryU exTab (sDrop (eAsk ask)) [("Refused", 1, (sRet (eAs gTupD (aCons (eC (.str "refused")) (aCons (eAs gRepr (aCons (eFld "Refused" "at" 1) aNil)) (aCons (eIsX "Refused" true 1) aNil))))))]) (sRet (eC .non)))
def f__law_refused : AskM → Mem → Out D := fun ask => bodyH 2 (m__law_refused ask)
def m__law_none_right : SM := (sSeq (sAsg (eLc (iSeq (e1 (gFld fldTab "rows") (eVar 1))) (gNm 10) tYesM (eAs gList (aCons (eVar 10) aNil)) [10]) (gNm 3)) (sSeq (sAsg (eAs gLstD (aCons (eC .non) (aCons (eC (.int 0)) (aCons (eC (.str "")) (aCons (eAs gTupD aNil) (aCons (eAs gLstD (aCons (eAs gTupD aNil) aNil)) (aCons (e2 gAdd (eVar 3) (eAs gLstD (aCons (e2 gAdd (e2 gIx (eVar 3) (eC (.int 0))) (eAs gLstD (aCons (eC (.int 0)) aNil))) aNil))) (aCons (e2 gAdd (eVar 3) (eAs gLstD (aCons (eSl (e2 gIx (eVar 3) (eC (.int 0))) (oSome (eC (.int 1))) oNo) aNil))) (aCons (eAs gLstD (aCons (e2 gRepA (eAs gLstD (aCons (eC (.int 257)) aNil)) (eVar 2)) aNil)) (aCons (eAs gLstD (aCons (e2 gRepA (eAs gLstD (aCons (eC (.bl true)) aNil)) (eVar 2)) aNil)) (aCons (eAs gLstD (aCons (e2 gRepA (eAs gLstD (aCons (e2 Kw.gSub (eC (.int 0)) (eC (.int 1))) aNil)) (eVar 2)) aNil)) (aCons (eAs gLstD (aCons (e2 gRepA (eC (.str "0")) (eVar 2)) aNil)) aNil)))))))))))) (gNm 4)) (sSeq (sAsg (eCallM f__law_pick (aCons (eVar 0) (aCons (e2 gAdd (eVar 4) (eAs gLstD (aCons (e2 gRepA (eSl (eVar 3) oNo (oSome (eC (.int 1)))) (eC (.int 9))) (aCons (eAs gLstD (aCons (e2 gRepA (eAs gLstD (aCons (eC (.int 0)) aNil)) (eC (.int 13))) aNil)) (aCons (e2 gRepA (eAs gLstD (aCons (eC (.int 0)) aNil)) (eVar 2)) (aCons (eAs gLstD (aCons (eC .non) aNil)) aNil)))))) aNil))) (gNm 5)) (sSeq (sIf (tBl (e2 gNe (eHrd f__law_refused (eMakeP f_Table___init__ "Table" gPos (aCons (eVar 5) aNil) aNil)) (eAs gTupD (aCons (eC (.str "refused")) (aCons (eAs gRepr (aCons (eVar 5) aNil)) (aCons (eC (.bl true)) aNil)))))) (sRet (eC (.bl false))) sNext) (sSeq (sAsg (eCallM f__law_pick (aCons (eVar 0) (aCons (eAs gLstD (aCons (eC .non) (aCons (e2 gRepA (eAs gTupD (aCons (eC (.int 0)) aNil)) (e2 gAdd (eVar 2) (eC (.int 1)))) (aCons (e2 gRepA (eAs gTupD (aCons (eC (.int 257)) aNil)) (eVar 2)) (aCons (e2 gRepA (eAs gTupD (aCons (eC (.bl true)) aNil)) (eVar 2)) (aCons (e2 gRepA (eC (.str "0")) (eVar 2)) (aCons (eC (.int 0)) (aCons (e2 gRepA (eAs gLstD (aCons (eC .non) aNil)) (eVar 2)) aNil)))))))) aNil))) (gNm 6)) (sSeq (sIf (tBl (e2 gNe (eHrd f__law_refused (eCallP f_sums_of_cells (aCons (eVar 1) (aCons (eVar 6) aNil)))) (eAs gTupD (aCons (eC (.str "refused")) (aCons (eAs gRepr (aCons (eVar 6) aNil)) (aCons (eC (.bl true)) aNil)))))) (sRet (eC (.bl false))) sNext) (sSeq (sAsg (eAs gTupD (aCons (eCallM f__law_pick (aCons (eVar 0) (aCons (eAs gLstD (aCons (eC .non) (aCons (eAs gTupD aNil) (aCons (eAs gTupD (aCons (eC (.int 257)) aNil)) (aCons (e2 gRepA (eAs gLstD (aCons (eC (.int 0)) aNil)) (eC (.int 13))) (aCons (eC (.str "1")) (aCons (eC (.int 3)) (aCons (eAs gTupD (aCons (eC (.bl true)) aNil)) aNil)))))))) aNil))) (aCons (eCallM f__law_pick (aCons (eVar 0) (aCons (eAs gLstD (aCons (eC (.int 0)) (aCons (eC (.int 9)) (aCons (eC .non) (aCons (eC (.bl true)) (aCons (eC (.str "2")) (aCons (e2 Kw.gSub (eC (.int 0)) (eC (.int 1))) aNil))))))) aNil))) aNil))) (gSeq 2 (gsCons (gNm 7) (gsCons (gNm 8) gsNil)))) (sSeq (sIf (tBl (e2 gNe (eHrd f__law_refused (eCallP f_points_table (aCons (eVar 7) (aCons (eVar 8) aNil)))) (eAs gTupD (aCons (eC (.str "refused")) (aCons (eAs gRepr (aCons (eVar 7) aNil)) (aCons (eC (.bl true)) aNil)))))) (sRet (eC (.bl false))) sNext) (sSeq (sIf (tBl (e2 gNe (eHrd f__law_refused (eCallP f_points_table (aCons (eAs gLstD (aCons (eC (.int 1)) (aCons (eC (.int 2)) aNil))) (aCons (eVar 8) aNil)))) (eAs gTupD (aCons (eC (.str "refused")) (aCons (eAs gRepr (aCons (eVar 8) aNil)) (aCons (eC (.bl true)) aNil)))))) (sRet (eC (.bl false))) sNext) (sSeq (sAsg (eCallM f__law_pick (aCons (eVar 0) (aCons (eAs gLstD (aCons (eC (.int 0)) (aCons (eC (.int 13)) (aCons (eC .non) (aCons (eC (.bl true)) (aCons (eC (.str "2")) (aCons (e2 Kw.gSub (eC (.int 0)) (eC (.int 1))) aNil))))))) aNil))) (gNm 9)) (sSeq (sIf (tBl (e2 gNe (eHrd f__law_refused (eCallP f_power_table (aCons (eVar 9) (aCons (eVar 8) aNil)))) (eAs gTupD (aCons (eC (.str "refused")) (aCons (eAs gRepr (aCons (eVar 9) aNil)) (aCons (eC (.bl true)) aNil)))))) (sRet (eC (.bl false))) sNext) (sRet (e2 gEq (eHrd f__law_refused (eCallP f_power_table (aCons (eC (.int 2)) (aCons (eVar 8) aNil)))) (eAs gTupD (aCons (eC (.str "refused")) (aCons (eAs gRepr (aCons (eVar 8) aNil)) (aCons (eC (.bl true)) aNil)))))))))))))))))
def f__law_none_right : FM := bodyM 11 m__law_none_right
def m_law_b1 : SM := (sSeq (sDrop (eMtL gAppend (eVar 14) (aCons (eAs gTuple (aCons (eVar 15) aNil)) aNil))) (sAsg (eLc (iZip2 (aCons (eVar 15) (aCons (eVar 5) aNil))) (gSeq 2 (gsCons (gNm 22) (gsCons (gNm 23) gsNil))) tYesM (e2 gMod (eAs gInt (aCons (e2 gMul (eVar 22) (eVar 23)) aNil)) (eC (.int 257))) [22, 23]) (gNm 15)))
def m_law_b2 : SM := (sSeq (sAsg (eCallM f__law_box (aCons (eVar 0) (aCons (eVar 1) aNil))) (gNm 2)) (sSeq (sPar 3 4 (aCons (e2 gAdd (eC (.int 1)) (eCallM f__law_take (aCons (eVar 2) (aCons (eC (.int 4)) aNil)))) (aCons (e2 gAdd (eC (.int 1)) (eCallM f__law_take (aCons (eVar 2) (aCons (eC (.int 5)) aNil)))) aNil))) (sSeq (sAsg (eCallM f__law_rows (aCons (eVar 2) (aCons (eVar 3) (aCons (eVar 4) aNil)))) (gSeq 2 (gsCons (gNm 5) (gsCons (gNm 6) gsNil)))) (sSeq (sAsg (eMakeP f_Table___init__ "Table" gPos (aCons (eLc (iSeq (eVar 6)) (gNm 18) tYesM (eAs gList (aCons (eVar 18) aNil)) [18]) aNil) aNil) (gNm 7)) (sSeq (sIf (tOrM (tBl (e2 gNe (eAs gRepr (aCons (eAs gTupD (aCons (e1 (gFld fldTab "rows") (eVar 7)) (aCons (e1 (gFld fldTab "data") (eVar 7)) (aCons (e1 (gFld fldTab "sums") (eVar 7)) aNil)))) aNil)) (eAs gRepr (aCons (eAs gTupD (aCons (eAs gTuple (aCons (eVar 6) aNil)) (aCons (eVar 4) (aCons (eVar 3) aNil)))) aNil)))) (tBl (e2 gIsNot (eEqO callP f_Table___eq__ "Table" false (eVar 7) (eMakeP f_Table___init__ "Table" (gPerm [0, 1]) aNil (aCons (eAs gTuple (aCons (eVar 6) aNil)) aNil))) (eC (.bl true))))) (sRet (eC (.bl false))) sNext) (sSeq (sAsg (e2 gAdd (eLc (iSeq (eSl (eVar 6) oNo (oSome (eC (.int 1))))) (gNm 18) tYesM (e2 gAdd (eAs gTuple (aCons (eAs gLstD (aCons (e2 gMod (eAs gInt (aCons (e2 gAdd (e2 gIx (eVar 18) (eC (.int 0))) (eC (.int 1))) aNil)) (eC (.int 257))) aNil)) aNil)) (eSl (eVar 18) (oSome (eC (.int 1))) oNo)) [18]) (eSl (eVar 6) (oSome (eC (.int 1))) oNo)) (gNm 8)) (sSeq (sIf (tOrM (tBl (e2 gIsNot (eEqO callP f_Table___eq__ "Table" false (eVar 7) (eMakeP f_Table___init__ "Table" gPos (aCons (eVar 8) aNil) aNil)) (eC (.bl false)))) (tBl (e2 gIsNot (eEqO callP f_Table___eq__ "Table" false (eVar 7) (eVar 6)) (eC (.bl false))))) (sRet (eC (.bl false))) sNext) (sSeq (sPar 9 10 (aCons (eAs gTuple (aCons (eLc (iRange1 (aCons (eVar 4) aNil)) (gNm 19) tYesM (eCallM f__law_take (aCons (eVar 2) (aCons (eC (.int 257)) aNil))) [19]) aNil)) (aCons (eAs gTuple (aCons (eLc (iRange1 (aCons (eVar 4) aNil)) (gNm 19) tYesM (eCallM f__law_take (aCons (eVar 2) (aCons (eC (.int 257)) aNil))) [19]) aNil)) aNil))) (sSeq (sAsg (eCallM f__law_take (aCons (eVar 2) (aCons (eC (.int 257)) aNil))) (gNm 11)) (sSeq (sIf (tOrM (tBl (e2 gNe (eAs gRepr (aCons (eCallP f_sums_of_cells (aCons (eVar 7) (aCons (eVar 9) aNil))) aNil)) (eAs gRepr (aCons (eCallP f__law_sums (aCons (eVar 6) (aCons (eVar 9) aNil))) aNil)))) (tBl (e2 gNe (eCallK0 f_sums_of_cells [1, 0] (aCons (eAs gList (aCons (eVar 9) aNil)) (aCons (eVar 7) aNil))) (eCallP f__law_sums (aCons (eVar 6) (aCons (eVar 9) aNil)))))) (sRet (eC (.bl false))) sNext) (sSeq (sAsg (eAs gTuple (aCons (eLc (iZip2 (aCons (eVar 9) (aCons (eVar 10) aNil))) (gSeq 2 (gsCons (gNm 20) (gsCons (gNm 21) gsNil))) tYesM (e2 gMod (eAs gInt (aCons (e2 gAdd (eVar 20) (e2 gMul (eVar 11) (eVar 21))) aNil)) (eC (.int 257))) [20, 21]) aNil)) (gNm 12)) (sSeq (sAsg (eAs gTuple (aCons (eLc (iZip2 (aCons (eCallP f_sums_of_cells (aCons (eVar 7) (aCons (eVar 9) aNil))) (aCons (eCallP f_sums_of_cells (aCons (eVar 7) (aCons (eVar 10) aNil))) aNil))) (gSeq 2 (gsCons (gNm 20) (gsCons (gNm 21) gsNil))) tYesM (e2 gMod (eAs gInt (aCons (e2 gAdd (eVar 20) (e2 gMul (eVar 11) (eVar 21))) aNil)) (eC (.int 257))) [20, 21]) aNil)) (gNm 13)) (sSeq (sIf (tBl (e2 gNe (eCallP f_sums_of_cells (aCons (eVar 7) (aCons (eVar 12) aNil))) (eVar 13))) (sRet (eC (.bl false))) sNext) (sSeq (sPar 14 15 (aCons (eAsM gNewL aNil) (aCons (e2 gRepA (eAs gLstD (aCons (eC (.int 1)) aNil)) (eVar 4)) aNil))) (sSeq (sFor (iRange1 (aCons (eVar 3) aNil)) (gNm 16) m_law_b1) (sSeq (sIf (tOrM (tBl (e2 gNe (e1 (gFld fldTab "rows") (eCallP f_points_table (aCons (eVar 5) (aCons (eVar 3) aNil)))) (eAs gTuple (aCons (eVar 14) aNil)))) (tBl (e2 gNe (e1 (gFld fldTab "rows") (eCallK0 f_points_table [1, 0] (aCons (eVar 3) (aCons (eAs gList (aCons (eVar 5) aNil)) aNil)))) (eAs gTuple (aCons (eVar 14) aNil))))) (sRet (eC (.bl false))) sNext) (sSeq (sAsg (eLc (iRange1 (aCons (eVar 4) aNil)) (gNm 19) tYesM (e2 gAdd (e2 gMul (eC (.int 2)) (eVar 19)) (eC (.int 1))) [19]) (gNm 17)) (sSeq (sIf (tOrM (tBl (eEqO callP f_Table___eq__ "Table" true (eCallP f_power_table (aCons (eVar 4) (aCons (eVar 3) aNil))) (eCallP f_points_table (aCons (eVar 17) (aCons (eVar 3) aNil))))) (tBl (e2 gNe (e2 gIx (e1 (gFld fldTab "rows") (eCallK0 f_power_table [1, 0] (aCons (eVar 3) (aCons (eVar 4) aNil)))) (eC (.int 0))) (e2 gRepA (eAs gTupD (aCons (eC (.int 1)) aNil)) (eVar 4))))) (sRet (eC (.bl false))) sNext) (sIf (tNotM (tTru (eCallM f__law_none_right (aCons (eVar 2) (aCons (eVar 7) (aCons (eVar 4) aNil)))))) (sRet (eC (.bl false))) sNext)))))))))))))))))))
def m_law : SM := (sSeq (sFor (iRange1 (aCons (eC (.int 4)) aNil)) (gNm 1) m_law_b2) (sRet (eAndM (e2 gEq (e1 (gFld fldTab "data") (eCallP f_power_table (aCons (eC (.int 12)) (aCons (eC (.int 8)) aNil)))) (eC (.int 12))) (e2 gEq (e1 (gFld fldTab "sums") (eCallP f_power_table (aCons (eC (.int 12)) (aCons (eC (.int 8)) aNil)))) (eC (.int 8))))))
def f_law : FM := bodyM 24 m_law
end K05

set_option Elab.async false
set_option linter.all false
set_option maxRecDepth 100000
set_option maxHeartbeats 2000000
namespace K05
open PySem PySem.Spec PyProof.Rows L2 Kw
def top (i : Nat) : Stmt := PySem.Challenge.pw_keptwhole_k05_tables_and_sums.main.body.getD i (.Pass ⟨0, 0, 0, 0⟩)
section
variable {P : Program} {w : World} {K : PySem.W.Frag} {mg : Str → Option Value} {base : Heap} {T : List (Addr × Str)} {f : Addr} {fd : FuncData}
abbrev s_is_integer : Stmt := top 5
abbrev N_is_integer : List Str := ["value"]
theorem sc_is_integer : FnScope N_is_integer ["value"] (defScope s_is_integer) := ⟨rfl, rfl, rfl, by decide +kernel, rfl, by decide +kernel, by decide +kernel⟩
theorem ok_is_integer (F : FnP K "is_integer" s_is_integer f fd) (gm : mg "is_integer" = some (.ref f)) (b_isinstance : mg "isinstance" = none) (b_int : mg "int" = none) (b_bool : mg "bool" = none) : CalD P w K mg base T "is_integer" s_is_integer 1 ["value"] f_is_integer :=
  CalD.mk' F gm (fun _ _ _ _ _ _ us hl => match us, hl with | [_], _ => rfl) (fnG_of F sc_is_integer rfl fun cdv A outer s H E hr hgd tk =>
    have sc := sc_is_integer
    (pss_one' (ps_ret' (pe_and' (pe_isi1 (n := "int") (by decide) rfl b_isinstance (pe_bltn rfl b_int (by decide +kernel) rfl) (pv' 0)) (pe_and1' (pe_not' (pe_isi1 (n := "bool") (by decide) rfl b_isinstance (pe_bltn rfl b_bool (by decide +kernel) rfl) (pv' 0))))))))
abbrev s_is_number : Stmt := top 6
abbrev N_is_number : List Str := ["value"]
theorem sc_is_number : FnScope N_is_number ["value"] (defScope s_is_number) := ⟨rfl, rfl, rfl, by decide +kernel, rfl, by decide +kernel, by decide +kernel⟩
theorem ok_is_number (F : FnP K "is_number" s_is_number f fd) (gm : mg "is_number" = some (.ref f)) (C_is_integer : CalD P w K mg base T "is_integer" s_is_integer 1 ["value"] f_is_integer) : CalD P w K mg base T "is_number" s_is_number 2 ["value"] f_is_number :=
  CalD.mk' F gm (fun _ _ _ _ _ _ us hl => match us, hl with | [_], _ => rfl) (fnG_of F sc_is_number rfl fun cdv A outer s H E hr hgd tk =>
    have sc := sc_is_number
    (pss_one' (ps_ret' (pe_and' (pe_P C_is_integer (passT tk) hr (by decide) hgd rfl (pa_cons' (pv' 0) pa_nil') (aCons_len aNil_len) rfl) (pe_and1' (pe_ge' (pv' 0) (pe_C' pe_int fun _ => .int _)))))))
abbrev s_is_below : Stmt := top 7
abbrev N_is_below : List Str := ["value", "most"]
theorem sc_is_below : FnScope N_is_below ["value", "most"] (defScope s_is_below) := ⟨rfl, rfl, rfl, by decide +kernel, rfl, by decide +kernel, by decide +kernel⟩
theorem ok_is_below (F : FnP K "is_below" s_is_below f fd) (gm : mg "is_below" = some (.ref f)) (C_is_number : CalD P w K mg base T "is_number" s_is_number 2 ["value"] f_is_number) : CalD P w K mg base T "is_below" s_is_below 3 ["value", "most"] f_is_below :=
  CalD.mk' F gm (fun _ _ _ _ _ _ us hl => match us, hl with | [_, _], _ => rfl) (fnG_of F sc_is_below rfl fun cdv A outer s H E hr hgd tk =>
    have sc := sc_is_below
    (pss_one' (ps_ret' (pe_and' (pe_P C_is_number (passT tk) hr (by decide) hgd rfl (pa_cons' (pv' 0) pa_nil') (aCons_len aNil_len) rfl) (pe_and1' (pe_lt' (pv' 0) (pv' 1)))))))
abbrev s_is_sequence : Stmt := top 8
abbrev N_is_sequence : List Str := ["value"]
theorem sc_is_sequence : FnScope N_is_sequence ["value"] (defScope s_is_sequence) := ⟨rfl, rfl, rfl, by decide +kernel, rfl, by decide +kernel, by decide +kernel⟩
theorem ok_is_sequence (F : FnP K "is_sequence" s_is_sequence f fd) (gm : mg "is_sequence" = some (.ref f)) (b_isinstance : mg "isinstance" = none) (b_tuple : mg "tuple" = none) (b_list : mg "list" = none) : CalD P w K mg base T "is_sequence" s_is_sequence 1 ["value"] f_is_sequence :=
  CalD.mk' F gm (fun _ _ _ _ _ _ us hl => match us, hl with | [_], _ => rfl) (fnG_of F sc_is_sequence rfl fun cdv A outer s H E hr hgd tk =>
    have sc := sc_is_sequence
    (pss_one' (ps_ret' (pe_isiT (ns := ["list", "tuple"]) (by decide) (by decide) rfl b_isinstance (pa_tyS (pe_bltn (v := .ty "list") rfl b_list (by decide +kernel) rfl) (pa_tyS (pe_bltn (v := .ty "tuple") rfl b_tuple (by decide +kernel) rfl) pa_ty0)) (pv' 0)))))
abbrev s_is_block : Stmt := top 9
abbrev N_is_block : List Str := ["value", "cells", "cell"]
theorem sc_is_block : FnScope N_is_block ["value", "cells"] (defScope s_is_block) := ⟨rfl, rfl, rfl, by decide +kernel, rfl, by decide +kernel, by decide +kernel⟩
theorem ok_is_block (F : FnP K "is_block" s_is_block f fd) (gm : mg "is_block" = some (.ref f)) (b_len : mg "len" = none) (b_all : mg "all" = none) (c_MOST_CELL : GlD K mg "MOST_CELL" d_MOST_CELL) (C_is_sequence : CalD P w K mg base T "is_sequence" s_is_sequence 1 ["value"] f_is_sequence) (C_is_below : CalD P w K mg base T "is_below" s_is_below 3 ["value", "most"] f_is_below) : CalD P w K mg base T "is_block" s_is_block 4 ["value", "cells"] f_is_block :=
  CalD.mk' F gm (fun _ _ _ _ _ _ us hl => match us, hl with | [_, _], _ => rfl) (fnG_of F sc_is_block rfl fun cdv A outer s H E hr hgd tk =>
    have sc := sc_is_block
    (pss_one' (ps_ret' (pe_and' (pe_P C_is_sequence (passT tk) hr (by decide) hgd rfl (pa_cons' (pv' 0) pa_nil') (aCons_len aNil_len) rfl) (pe_and' (pe_eq' (u64 hr) (pe_len' rfl b_len (pa_cons' (pv' 0) pa_nil')) (pv' 1)) (pe_and1' (pe_all' rfl rfl b_all (pa_cons' (pe_lc' (own := [("cell", 2)]) rfl sc.nd (pi_seq' (pv' 0)) (blkOk_by (N := N_is_block) (sc := defScope s_is_block) (own := [("cell", 2)]) (by decide +kernel)) (nmTg (by decide)) (fun _ _ _ _ _ => (pg_name (i := 2) sc.nd rfl (by first | exact Or.inl rfl | exact Or.inr rfl))) (fun _ _ _ _ _ => pts_nil') (fun _ _ _ _ _ => (pe_P C_is_below pass0 hr (by decide) hgd rfl (pa_cons' (pv' 2) (pa_cons' (pe_gD rfl c_MOST_CELL) pa_nil')) (aCons_len (aCons_len aNil_len)) rfl))) pa_nil'))))))))
abbrev s_product : Stmt := top 12
abbrev N_product : List Str := ["one", "other", "here", "there"]
theorem sc_product : FnScope N_product ["one", "other"] (defScope s_product) := ⟨rfl, rfl, rfl, by decide +kernel, rfl, by decide +kernel, by decide +kernel⟩
theorem ok_product (F : FnP K "product" s_product f fd) (gm : mg "product" = some (.ref f)) (b_sum : mg "sum" = none) (b_zip : mg "zip" = none) (c_CELL : GlD K mg "CELL" d_CELL) : CalD P w K mg base T "product" s_product 1 ["one", "other"] f_product :=
  CalD.mk' F gm (fun _ _ _ _ _ _ us hl => match us, hl with | [_, _], _ => rfl) (fnG_of F sc_product rfl fun cdv A outer s H E hr hgd tk =>
    have sc := sc_product
    (pss_one' (ps_ret' (pe_mod' (pe_sum' rfl rfl b_sum (pa_cons' (pe_lc' (own := [("here", 2), ("there", 3)]) rfl sc.nd (pi_zip' rfl b_zip (pa_cons' (pv' 0) (pa_cons' (pv' 1) pa_nil'))) (blkOk_by (N := N_product) (sc := defScope s_product) (own := [("here", 2), ("there", 3)]) (by decide +kernel)) (nmTg_seq (nmTgs_consG (nmTg (by decide)) (nmTgs_consG (nmTg (by decide)) nmTgs_nil))) (fun _ _ _ _ _ => (PGor (pg_tup rfl (pgs_cons (pg_name (i := 2) sc.nd rfl (by first | exact Or.inl rfl | exact Or.inr rfl)) (pgs_cons (pg_name (i := 3) sc.nd rfl (by first | exact Or.inl rfl | exact Or.inr rfl)) pgs_nil))) (pg_unl rfl (pgs_cons (pg_name (i := 2) sc.nd rfl (by first | exact Or.inl rfl | exact Or.inr rfl)) (pgs_cons (pg_name (i := 3) sc.nd rfl (by first | exact Or.inl rfl | exact Or.inr rfl)) pgs_nil))))) (fun _ _ _ _ _ => pts_nil') (fun _ _ _ _ _ => (pe_mul' (pv' 2) (pv' 3)))) pa_nil')) (pe_gD rfl c_CELL)))))
abbrev s_check_table : Stmt := top 16
abbrev N_check_table : List Str := ["value", "many", "row"]
theorem sc_check_table : FnScope N_check_table ["value"] (defScope s_check_table) := ⟨rfl, rfl, rfl, by decide +kernel, rfl, by decide +kernel, by decide +kernel⟩
theorem ok_check_table {CA_Refused IA_Refused : Addr} (F : FnP K "check_table" s_check_table f fd) (gm : mg "check_table" = some (.ref f)) (b_len : mg "len" = none) (b_all : mg "all" = none) (b_tuple : mg "tuple" = none) (c_MOST_SUMS : GlD K mg "MOST_SUMS" d_MOST_SUMS) (c_MOST_DATA : GlD K mg "MOST_DATA" d_MOST_DATA) (E_Refused : ErrD P K mg "Refused" "at" "no such value here" CA_Refused IA_Refused) (C_is_sequence : CalD P w K mg base T "is_sequence" s_is_sequence 1 ["value"] f_is_sequence) (C_is_block : CalD P w K mg base T "is_block" s_is_block 4 ["value", "cells"] f_is_block) : CalD P w K mg base T "check_table" s_check_table 5 ["value"] f_check_table :=
  CalD.mk' F gm (fun _ _ _ _ _ _ us hl => match us, hl with | [_], _ => rfl) (fnG_of F sc_check_table rfl fun cdv A outer s H E hr hgd tk =>
    have sc := sc_check_table
    (pss_cons' (ps_if' (PW.pt (pw_or' (pt_not' (pt_tru' (pe_P C_is_sequence (passT tk) hr (by decide) hgd rfl (pa_cons' (pv' 0) pa_nil') (aCons_len aNil_len) rfl))) (pw_or' (pt_not' (pt_chn' op_le op_le (fun _ _ _ _ => le_r) (fun _ _ _ _ => le_r) (pe_C' pe_int fun _ => .int _) (pe_len' rfl b_len (pa_cons' (pv' 0) pa_nil')) (pe_gD rfl c_MOST_SUMS))) (pw_or1' (pt_not' (pt_tru' (pe_P C_is_sequence (passT tk) hr (by decide) hgd rfl (pa_cons' (pe_ix' (fun _ _ => rfl) (pv' 0) (pe_C' pe_int fun _ => .int _)) pa_nil') (aCons_len aNil_len) rfl))))))) (pss_one' (ps_raiseS E_Refused.sup rfl tk (hr.mono (by decide)) rfl (pv' 0))) pss_nil') (pss_cons' (ps_set' (i := 1) sc.nd rfl (by first | exact Or.inl rfl | exact Or.inr rfl) (pe_len' rfl b_len (pa_cons' (pe_ix' (fun _ _ => rfl) (pv' 0) (pe_C' pe_int fun _ => .int _)) pa_nil'))) (pss_cons' (ps_if' (PW.pt (pw_or' (pt_not' (pt_chn' op_le op_le (fun _ _ _ _ => le_r) (fun _ _ _ _ => le_r) (pe_C' pe_int fun _ => .int _) (pv' 1) (pe_gD rfl c_MOST_DATA))) (pw_or1' (pt_not' (pt_tru' (pe_all' rfl rfl b_all (pa_cons' (pe_lc' (own := [("row", 2)]) rfl sc.nd (pi_seq' (pv' 0)) (blkOk_by (N := N_check_table) (sc := defScope s_check_table) (own := [("row", 2)]) (by decide +kernel)) (nmTg (by decide)) (fun _ _ _ _ _ => (pg_name (i := 2) sc.nd rfl (by first | exact Or.inl rfl | exact Or.inr rfl))) (fun _ _ _ _ _ => pts_nil') (fun _ _ _ _ _ => (pe_P C_is_block pass0 hr (by decide) hgd rfl (pa_cons' (pv' 2) (pa_cons' (pv' 1) pa_nil')) (aCons_len (aCons_len aNil_len)) rfl))) pa_nil'))))))) (pss_one' (ps_raiseS E_Refused.sup rfl tk (hr.mono (by decide)) rfl (pv' 0))) pss_nil') (pss_one' (ps_ret' (pe_tuple' rfl b_tuple (pa_cons' (pe_lc' (own := [("row", 2)]) rfl sc.nd (pi_seq' (pv' 0)) (blkOk_by (N := N_check_table) (sc := defScope s_check_table) (own := [("row", 2)]) (by decide +kernel)) (nmTg (by decide)) (fun _ _ _ _ _ => (pg_name (i := 2) sc.nd rfl (by first | exact Or.inl rfl | exact Or.inr rfl))) (fun _ _ _ _ _ => pts_nil') (fun _ _ _ _ _ => (pe_tuple' rfl b_tuple (pa_cons' (pv' 2) pa_nil')))) pa_nil'))))))))
abbrev s_Table___init__ : Stmt := inClass (top 17) 0
abbrev N_Table___init__ : List Str := ["self", "rows"]
theorem sc_Table___init__ : FnScope N_Table___init__ ["self", "rows"] (defScope s_Table___init__) := ⟨rfl, rfl, rfl, by decide +kernel, rfl, by decide +kernel, by decide +kernel⟩
theorem ok_Table___init__ {CC : Addr} (gC : mg "Table" = some (.ref CC)) (hM : Mk K CC f) (F : FunD K "__init__" "Table.__init__" (defArgs s_Table___init__) (defBody s_Table___init__) (defScope s_Table___init__) [] [] f fd) (b_len : mg "len" = none) (ft : FlOk K mg fldTab) (C_check_table : CalD P w K mg base T "check_table" s_check_table 5 ["value"] f_check_table) : IniD P w K mg base T "Table" "Table.__init__" s_Table___init__ 6 ["self", "rows"] f_Table___init__ :=
  ⟨CC, f, fd, gC, hM, F, fnG_of F sc_Table___init__ rfl fun cdv A outer s H E hr hgd tk =>
    have sc := sc_Table___init__
    (pss_cons' (ps_fldM ft (pv' 0) (pe_P C_check_table (passT tk) hr (by decide) hgd rfl (pa_cons' (pv' 1) pa_nil') (aCons_len aNil_len) rfl)) (pss_cons' (ps_fldM ft (pv' 0) (pe_len' rfl b_len (pa_cons' (pe_ix' (fun _ _ => rfl) (pe_fldT ft (pv' 0)) (pe_C' pe_int fun _ => .int _)) pa_nil'))) (pss_one' (ps_fldM ft (pv' 0) (pe_len' rfl b_len (pa_cons' (pe_fldT ft (pv' 0)) pa_nil'))))))⟩
abbrev s_Table___eq__ : Stmt := inClass (top 17) 1
abbrev N_Table___eq__ : List Str := ["self", "other"]
theorem sc_Table___eq__ : FnScope N_Table___eq__ ["self", "other"] (defScope s_Table___eq__) := ⟨rfl, rfl, rfl, by decide +kernel, rfl, by decide +kernel, by decide +kernel⟩
theorem ok_Table___eq__ {CC : Addr} (gC : mg "Table" = some (.ref CC)) (hC : Cls K CC) (hM : Meth K CC "__eq__" f) (F : FunD K "__eq__" "Table.__eq__" (defArgs s_Table___eq__) (defBody s_Table___eq__) (defScope s_Table___eq__) [] [] f fd) (b_isinstance : mg "isinstance" = none) (ft : FlOk K mg fldTab) (IS_Table : IsC K mg "Table") : MetD P w K mg base T "Table" "__eq__" "Table.__eq__" s_Table___eq__ 1 ["self", "other"] f_Table___eq__ :=
  ⟨CC, f, fd, gC, hC, hM, F, fnG_of F sc_Table___eq__ rfl fun cdv A outer s H E hr hgd tk =>
    have sc := sc_Table___eq__
    (pss_one' (ps_ret' (pe_and' (pe_isiC IS_Table rfl b_isinstance rfl (pv' 1)) (pe_and1' (pe_eq' (u64 hr) (pe_fldT ft (pv' 0)) (pe_fldT ft (pv' 1)))))))⟩
abbrev s_need_many : Stmt := top 18
abbrev N_need_many : List Str := ["value", "most"]
theorem sc_need_many : FnScope N_need_many ["value", "most"] (defScope s_need_many) := ⟨rfl, rfl, rfl, by decide +kernel, rfl, by decide +kernel, by decide +kernel⟩
theorem ok_need_many {CA_Refused IA_Refused : Addr} (F : FnP K "need_many" s_need_many f fd) (gm : mg "need_many" = some (.ref f)) (E_Refused : ErrD P K mg "Refused" "at" "no such value here" CA_Refused IA_Refused) (C_is_below : CalD P w K mg base T "is_below" s_is_below 3 ["value", "most"] f_is_below) : CalD P w K mg base T "need_many" s_need_many 4 ["value", "most"] f_need_many :=
  CalD.mk' F gm (fun _ _ _ _ _ _ us hl => match us, hl with | [_, _], _ => rfl) (fnG_of F sc_need_many rfl fun cdv A outer s H E hr hgd tk =>
    have sc := sc_need_many
    (pss_cons' (ps_if' (PW.pt (pw_or' (pt_not' (pt_tru' (pe_P C_is_below (passT tk) hr (by decide) hgd rfl (pa_cons' (pv' 0) (pa_cons' (pe_add' (pv' 1) (pe_C' pe_int fun _ => .int _)) pa_nil')) (aCons_len (aCons_len aNil_len)) rfl))) (pw_or1' (pt_eq' (u64 hr) (pv' 0) (pe_C' pe_int fun _ => .int _))))) (pss_one' (ps_raiseS E_Refused.sup rfl tk (hr.mono (by decide)) rfl (pv' 0))) pss_nil') (pss_one' (ps_ret' (pv' 0)))))
abbrev s_points_table : Stmt := top 19
abbrev N_points_table : List Str := ["points", "sums", "rows", "row", "_", "cell", "point"]
theorem sc_points_table : FnScope N_points_table ["points", "sums"] (defScope s_points_table) := ⟨rfl, rfl, rfl, by decide +kernel, rfl, by decide +kernel, by decide +kernel⟩
theorem ok_points_table {CA_Refused IA_Refused : Addr} (F : FnP K "points_table" s_points_table f fd) (gm : mg "points_table" = some (.ref f)) (b_len : mg "len" = none) (b_range : mg "range" = none) (b_tuple : mg "tuple" = none) (b_zip : mg "zip" = none) (c_MOST_DATA : GlD K mg "MOST_DATA" d_MOST_DATA) (c_MOST_SUMS : GlD K mg "MOST_SUMS" d_MOST_SUMS) (c_CELL : GlD K mg "CELL" d_CELL) (E_Refused : ErrD P K mg "Refused" "at" "no such value here" CA_Refused IA_Refused) (C_is_sequence : CalD P w K mg base T "is_sequence" s_is_sequence 1 ["value"] f_is_sequence) (C_is_block : CalD P w K mg base T "is_block" s_is_block 4 ["value", "cells"] f_is_block) (C_need_many : CalD P w K mg base T "need_many" s_need_many 4 ["value", "most"] f_need_many) (C_Table___init__ : IniD P w K mg base T "Table" "Table.__init__" s_Table___init__ 6 ["self", "rows"] f_Table___init__) : CalD P w K mg base T "points_table" s_points_table 8 ["points", "sums"] f_points_table :=
  CalD.mk' F gm (fun _ _ _ _ _ _ us hl => match us, hl with | [_, _], _ => rfl) (fnG_of F sc_points_table rfl fun cdv A outer s H E hr hgd tk =>
    have sc := sc_points_table
    (pss_cons' (ps_if' (PW.pt (pw_or' (pt_not' (pt_tru' (pe_P C_is_sequence (passT tk) hr (by decide) hgd rfl (pa_cons' (pv' 0) pa_nil') (aCons_len aNil_len) rfl))) (pw_or' (pt_not' (pt_chn' op_le op_le (fun _ _ _ _ => le_r) (fun _ _ _ _ => le_r) (pe_C' pe_int fun _ => .int _) (pe_len' rfl b_len (pa_cons' (pv' 0) pa_nil')) (pe_gD rfl c_MOST_DATA))) (pw_or1' (pt_not' (pt_tru' (pe_P C_is_block (passT tk) hr (by decide) hgd rfl (pa_cons' (pv' 0) (pa_cons' (pe_len' rfl b_len (pa_cons' (pv' 0) pa_nil')) pa_nil')) (aCons_len (aCons_len aNil_len)) rfl))))))) (pss_one' (ps_raiseS E_Refused.sup rfl tk (hr.mono (by decide)) rfl (pv' 0))) pss_nil') (pss_cons' (ps_set' (i := 2) sc.nd rfl (by first | exact Or.inl rfl | exact Or.inr rfl) (pe_newL pa_nil')) (pss_cons' (ps_set' (i := 3) sc.nd rfl (by first | exact Or.inl rfl | exact Or.inr rfl) (pe_repA' (pe_tup' (pa_cons' (pe_C' pe_int fun _ => .int _) pa_nil')) (pe_len' rfl b_len (pa_cons' (pv' 0) pa_nil')))) (pss_cons' (ps_for' (passes_of rfl) rfl (pi_range1' rfl b_range (pa_cons' (pe_P C_need_many (passT tk) hr (by decide) hgd rfl (pa_cons' (pv' 1) (pa_cons' (pe_gD rfl c_MOST_SUMS) pa_nil')) (aCons_len (aCons_len aNil_len)) rfl) pa_nil')) (pg_name' (i := 4) sc.nd rfl (by first | exact Or.inl rfl | exact Or.inr rfl)) (pss_cons' (ps_expr' (pe_append' (pv' 2) (pa_cons' (pv' 3) pa_nil'))) (pss_one' (ps_set' (i := 3) sc.nd rfl (by first | exact Or.inl rfl | exact Or.inr rfl) (pe_tuple' rfl b_tuple (pa_cons' (pe_lc' (own := [("cell", 5), ("point", 6)]) rfl sc.nd (pi_zip' rfl b_zip (pa_cons' (pv' 3) (pa_cons' (pv' 0) pa_nil'))) (blkOk_by (N := N_points_table) (sc := defScope s_points_table) (own := [("cell", 5), ("point", 6)]) (by decide +kernel)) (nmTg_seq (nmTgs_consG (nmTg (by decide)) (nmTgs_consG (nmTg (by decide)) nmTgs_nil))) (fun _ _ _ _ _ => (PGor (pg_tup rfl (pgs_cons (pg_name (i := 5) sc.nd rfl (by first | exact Or.inl rfl | exact Or.inr rfl)) (pgs_cons (pg_name (i := 6) sc.nd rfl (by first | exact Or.inl rfl | exact Or.inr rfl)) pgs_nil))) (pg_unl rfl (pgs_cons (pg_name (i := 5) sc.nd rfl (by first | exact Or.inl rfl | exact Or.inr rfl)) (pgs_cons (pg_name (i := 6) sc.nd rfl (by first | exact Or.inl rfl | exact Or.inr rfl)) pgs_nil))))) (fun _ _ _ _ _ => pts_nil') (fun _ _ _ _ _ => (pe_mod' (pe_mul' (pv' 5) (pv' 6)) (pe_gD rfl c_CELL)))) pa_nil')))))) (pss_frz 2 (pss_one' (ps_ret' (pe_makeP C_Table___init__ (passT tk) hr (by decide) hgd rfl (cwa (ks := []) (pa_cons' (pv' 2) pa_nil') pk_nil') (kg_pos (n := 2)) (fun _ _ _ _ _ _ us ws h1 h2 => match us, ws, h1, h2 with | [_, _], [], _, _ => rfl) (aCons_len aNil_len) aNil_len)))))))))
abbrev s_power_table : Stmt := top 20
abbrev N_power_table : List Str := ["data", "sums", "disk"]
theorem sc_power_table : FnScope N_power_table ["data", "sums"] (defScope s_power_table) := ⟨rfl, rfl, rfl, by decide +kernel, rfl, by decide +kernel, by decide +kernel⟩
theorem ok_power_table (F : FnP K "power_table" s_power_table f fd) (gm : mg "power_table" = some (.ref f)) (b_range : mg "range" = none) (c_MOST_DATA : GlD K mg "MOST_DATA" d_MOST_DATA) (C_points_table : CalD P w K mg base T "points_table" s_points_table 8 ["points", "sums"] f_points_table) (C_need_many : CalD P w K mg base T "need_many" s_need_many 4 ["value", "most"] f_need_many) : CalD P w K mg base T "power_table" s_power_table 9 ["data", "sums"] f_power_table :=
  CalD.mk' F gm (fun _ _ _ _ _ _ us hl => match us, hl with | [_, _], _ => rfl) (fnG_of F sc_power_table rfl fun cdv A outer s H E hr hgd tk =>
    have sc := sc_power_table
    (pss_one' (ps_ret' (pe_P C_points_table (passT tk) hr (by decide) hgd rfl (pa_cons' (pe_lc' (own := [("disk", 2)]) rfl sc.nd (pi_range1' rfl b_range (pa_cons' (pe_P C_need_many (passT tk) hr (by decide) hgd rfl (pa_cons' (pv' 0) (pa_cons' (pe_gD rfl c_MOST_DATA) pa_nil')) (aCons_len (aCons_len aNil_len)) rfl) pa_nil')) (blkOk_by (N := N_power_table) (sc := defScope s_power_table) (own := [("disk", 2)]) (by decide +kernel)) (nmTg (by decide)) (fun _ _ _ _ _ => (pg_name (i := 2) sc.nd rfl (by first | exact Or.inl rfl | exact Or.inr rfl))) (fun _ _ _ _ _ => pts_nil') (fun _ _ _ _ _ => (pe_add' (pe_mul' (pe_C' pe_int fun _ => .int _) (pv' 2)) (pe_C' pe_int fun _ => .int _)))) (pa_cons' (pv' 1) pa_nil')) (aCons_len (aCons_len aNil_len)) rfl))))
abbrev s_sums_of_cells : Stmt := top 21
abbrev N_sums_of_cells : List Str := ["table", "cells", "row"]
theorem sc_sums_of_cells : FnScope N_sums_of_cells ["table", "cells"] (defScope s_sums_of_cells) := ⟨rfl, rfl, rfl, by decide +kernel, rfl, by decide +kernel, by decide +kernel⟩
theorem ok_sums_of_cells {CA_Refused IA_Refused : Addr} (F : FnP K "sums_of_cells" s_sums_of_cells f fd) (gm : mg "sums_of_cells" = some (.ref f)) (b_tuple : mg "tuple" = none) (E_Refused : ErrD P K mg "Refused" "at" "no such value here" CA_Refused IA_Refused) (ft : FlOk K mg fldTab) (C_is_block : CalD P w K mg base T "is_block" s_is_block 4 ["value", "cells"] f_is_block) (C_product : CalD P w K mg base T "product" s_product 1 ["one", "other"] f_product) : CalD P w K mg base T "sums_of_cells" s_sums_of_cells 5 ["table", "cells"] f_sums_of_cells :=
  CalD.mk' F gm (fun _ _ _ _ _ _ us hl => match us, hl with | [_, _], _ => rfl) (fnG_of F sc_sums_of_cells rfl fun cdv A outer s H E hr hgd tk =>
    have sc := sc_sums_of_cells
    (pss_cons' (ps_if' (pt_not' (pt_tru' (pe_P C_is_block (passT tk) hr (by decide) hgd rfl (pa_cons' (pv' 1) (pa_cons' (pe_fldT ft (pv' 0)) pa_nil')) (aCons_len (aCons_len aNil_len)) rfl))) (pss_one' (ps_raiseS E_Refused.sup rfl tk (hr.mono (by decide)) rfl (pv' 1))) pss_nil') (pss_one' (ps_ret' (pe_tuple' rfl b_tuple (pa_cons' (pe_lc' (own := [("row", 2)]) rfl sc.nd (pi_seq' (pe_fldT ft (pv' 0))) (blkOk_by (N := N_sums_of_cells) (sc := defScope s_sums_of_cells) (own := [("row", 2)]) (by decide +kernel)) (nmTg (by decide)) (fun _ _ _ _ _ => (pg_name (i := 2) sc.nd rfl (by first | exact Or.inl rfl | exact Or.inr rfl))) (fun _ _ _ _ _ => pts_nil') (fun _ _ _ _ _ => (pe_P C_product pass0 hr (by decide) hgd rfl (pa_cons' (pv' 2) (pa_cons' (pv' 1) pa_nil')) (aCons_len (aCons_len aNil_len)) rfl))) pa_nil'))))))
abbrev s__law_box : Stmt := top 23
abbrev N__law_box : List Str := ["_law_script", "_law_k", "_law_cell", "_law_great"]
theorem sc__law_box : FnScope N__law_box ["_law_script", "_law_k"] (defScope s__law_box) := ⟨rfl, rfl, rfl, by decide +kernel, rfl, by decide +kernel, by decide +kernel⟩
theorem ok__law_box (F : FnP K "_law_box" s__law_box f fd) (gm : mg "_law_box" = some (.ref f)) (b_len : mg "len" = none) (b_abs : mg "abs" = none) (b_int : mg "int" = none) : CalD P w K mg base T "_law_box" s__law_box 1 ["_law_script", "_law_k"] f__law_box :=
  CalD.mk' F gm (fun _ _ _ _ _ _ us hl => match us, hl with | [_, _], _ => rfl) (fnG_of F sc__law_box rfl fun cdv A outer s H E hr hgd tk =>
    have sc := sc__law_box
    (pss_cons' (ps_set' (i := 2) sc.nd rfl (by first | exact Or.inl rfl | exact Or.inr rfl) (pe_add' (pe_mul' (pe_C' pe_int fun _ => .int _) (pv' 1)) (pe_C' pe_int fun _ => .int _))) (pss_cons' (ps_if' (pt_lt' (pv' 1) (pe_len' rfl b_len (pa_cons' (pv' 0) pa_nil'))) (pss_one' (ps_set' (i := 2) sc.nd rfl (by first | exact Or.inl rfl | exact Or.inr rfl) (pe_abs' rfl b_abs (pa_cons' (pe_int' rfl b_int (pa_cons' (pe_ix' (fun _ _ => rfl) (pv' 0) (pv' 1)) pa_nil')) pa_nil')))) (pss_one' (ps_if' (pt_gt' (pe_len' rfl b_len (pa_cons' (pv' 0) pa_nil')) (pe_C' pe_int fun _ => .int _)) (pss_one' (ps_set' (i := 2) sc.nd rfl (by first | exact Or.inl rfl | exact Or.inr rfl) (pe_add' (pv' 2) (pe_mul' (pe_mod' (pe_int' rfl b_int (pa_cons' (pe_abs' rfl b_abs (pa_cons' (pe_int' rfl b_int (pa_cons' (pe_ix' (fun _ _ => rfl) (pv' 0) (pe_mod' (pe_int' rfl b_int (pa_cons' (pv' 1) pa_nil')) (pe_len' rfl b_len (pa_cons' (pv' 0) pa_nil')))) pa_nil')) pa_nil')) pa_nil')) (pe_C' pe_int fun _ => .int _)) (pe_C' pe_int fun _ => .int _))))) pss_nil'))) (pss_cons' (ps_set' (i := 3) sc.nd rfl (by first | exact Or.inl rfl | exact Or.inr rfl) (pe_ifExp' (pt_ge' (pv' 2) (pe_pow' (pe_C' pe_int fun _ => .int _) (pe_C' pe_int fun _ => .int _))) (pv' 2) (pe_C' pe_int fun _ => .int _))) (pss_one' (ps_ret' (pe_newL (pa_cons' (pv' 3) (pa_cons' (pe_add' (pe_mod' (pe_int' rfl b_int (pa_cons' (pe_add' (pe_mul' (pe_mod' (pe_int' rfl b_int (pa_cons' (pv' 2) pa_nil')) (pe_C' pe_int fun _ => .int _)) (pe_C' pe_int fun _ => .int _)) (pe_mul' (pe_C' pe_int fun _ => .int _) (pv' 1))) pa_nil')) (pe_C' pe_int fun _ => .int _)) (pe_C' pe_int fun _ => .int _)) pa_nil')))))))))
abbrev s__law_take : Stmt := top 24
abbrev N__law_take : List Str := ["_law_box_here", "_law_many", "_law_digit", "_law_raw"]
theorem sc__law_take : FnScope N__law_take ["_law_box_here", "_law_many"] (defScope s__law_take) := ⟨rfl, rfl, rfl, by decide +kernel, rfl, by decide +kernel, by decide +kernel⟩
theorem ok__law_take (F : FnP K "_law_take" s__law_take f fd) (gm : mg "_law_take" = some (.ref f)) (b_int : mg "int" = none) : CalD P w K mg base T "_law_take" s__law_take 1 ["_law_box_here", "_law_many"] f__law_take :=
  CalD.mk' F gm (fun _ _ _ _ _ _ us hl => match us, hl with | [_, _], _ => rfl) (fnG_of F sc__law_take rfl fun cdv A outer s H E hr hgd tk =>
    have sc := sc__law_take
    (pss_cons' (ps_if' (pt_gt' (pe_ix' (fun _ _ => rfl) (pv' 0) (pe_C' pe_int fun _ => .int _)) (pe_C' pe_int fun _ => .int _)) (pss_cons' (ps_set' (i := 2) sc.nd rfl (by first | exact Or.inl rfl | exact Or.inr rfl) (pe_mod' (pe_int' rfl b_int (pa_cons' (pe_ix' (fun _ _ => rfl) (pv' 0) (pe_C' pe_int fun _ => .int _)) pa_nil')) (pv' 1))) (pss_cons' (ps_asg' (pe_fdv' (pe_ix' (fun _ _ => rfl) (pv' 0) (pe_C' pe_int fun _ => .int _)) (pv' 1)) (pg_sub' (fun _ _ ho hi => pg_sub ho hi set_list) (pv' 0) (pe_C' pe_int fun _ => .int _))) (pss_one' (ps_ret' (pv' 2))))) pss_nil') (pss_cons' (ps_set' (i := 3) sc.nd rfl (by first | exact Or.inl rfl | exact Or.inr rfl) (pe_mod' (pe_int' rfl b_int (pa_cons' (pe_add' (pe_mul' (pe_ix' (fun _ _ => rfl) (pv' 0) (pe_C' pe_int fun _ => .int _)) (pe_C' pe_int fun _ => .int _)) (pe_C' pe_int fun _ => .int _)) pa_nil')) (pe_C' pe_int fun _ => .int _))) (pss_cons' (ps_asg' (pe_add' (pe_mod' (pe_int' rfl b_int (pa_cons' (pe_add' (pe_mul' (pv' 3) (pe_C' pe_int fun _ => .int _)) (pe_C' pe_int fun _ => .int _)) pa_nil')) (pe_C' pe_int fun _ => .int _)) (pe_C' pe_int fun _ => .int _)) (pg_sub' (fun _ _ ho hi => pg_sub ho hi set_list) (pv' 0) (pe_C' pe_int fun _ => .int _))) (pss_one' (ps_ret' (pe_mod' (pe_int' rfl b_int (pa_cons' (pe_fdv' (pe_add' (pe_mul' (pv' 3) (pe_C' pe_int fun _ => .int _)) (pe_ix' (fun _ _ => rfl) (pv' 0) (pe_C' pe_int fun _ => .int _))) (pe_C' pe_int fun _ => .int _)) pa_nil')) (pv' 1))))))))
abbrev s__law_pick : Stmt := top 25
abbrev N__law_pick : List Str := ["_law_box_here", "_law_some"]
theorem sc__law_pick : FnScope N__law_pick ["_law_box_here", "_law_some"] (defScope s__law_pick) := ⟨rfl, rfl, rfl, by decide +kernel, rfl, by decide +kernel, by decide +kernel⟩
theorem ok__law_pick (F : FnP K "_law_pick" s__law_pick f fd) (gm : mg "_law_pick" = some (.ref f)) (b_len : mg "len" = none) (C__law_take : CalD P w K mg base T "_law_take" s__law_take 1 ["_law_box_here", "_law_many"] f__law_take) : CalD P w K mg base T "_law_pick" s__law_pick 2 ["_law_box_here", "_law_some"] f__law_pick :=
  CalD.mk' F gm (fun _ _ _ _ _ _ us hl => match us, hl with | [_, _], _ => rfl) (fnG_of F sc__law_pick rfl fun cdv A outer s H E hr hgd tk =>
    have sc := sc__law_pick
    (pss_one' (ps_ret' (pe_ix' (fun _ _ => rfl) (pv' 1) (pe_M C__law_take (passT tk) hr (by decide) hgd rfl (pa_cons' (pv' 0) (pa_cons' (pe_len' rfl b_len (pa_cons' (pv' 1) pa_nil')) pa_nil')) (aCons_len (aCons_len aNil_len)) rfl)))))
abbrev s__law_rows : Stmt := top 26
abbrev N__law_rows : List Str := ["_law_box_here", "_law_sums_here", "_law_data", "_law_points", "_law_rows_here", "_law_disk", "_law_row", "_law_at", "_law_cell", "_law_point"]
theorem sc__law_rows : FnScope N__law_rows ["_law_box_here", "_law_sums_here", "_law_data"] (defScope s__law_rows) := ⟨rfl, rfl, rfl, by decide +kernel, rfl, by decide +kernel, by decide +kernel⟩
theorem ok__law_rows (F : FnP K "_law_rows" s__law_rows f fd) (gm : mg "_law_rows" = some (.ref f)) (b_range : mg "range" = none) (b_tuple : mg "tuple" = none) (b_zip : mg "zip" = none) (b_int : mg "int" = none) (C__law_pick : CalD P w K mg base T "_law_pick" s__law_pick 2 ["_law_box_here", "_law_some"] f__law_pick) (C__law_take : CalD P w K mg base T "_law_take" s__law_take 1 ["_law_box_here", "_law_many"] f__law_take) : CalD P w K mg base T "_law_rows" s__law_rows 3 ["_law_box_here", "_law_sums_here", "_law_data"] f__law_rows :=
  CalD.mk' F gm (fun _ _ _ _ _ _ us hl => match us, hl with | [_, _, _], _ => rfl) (fnG_of F sc__law_rows rfl fun cdv A outer s H E hr hgd tk =>
    have sc := sc__law_rows
    (pss_cons' (ps_par' (i := 3) (j := 4) rfl sc.nd rfl rfl (by decide) rfl rfl (pa_cons' (pe_newL pa_nil') (pa_cons' (pe_newL pa_nil') pa_nil')) (by with_unfolding_all rfl)) (pss_cons' (ps_for' (passes_of rfl) rfl (pi_range1' rfl b_range (pa_cons' (pv' 2) pa_nil')) (pg_name' (i := 5) sc.nd rfl (by first | exact Or.inl rfl | exact Or.inr rfl)) (pss_one' (ps_expr' (pe_append' (pv' 3) (pa_cons' (pe_M C__law_pick (passT tk) hr (by decide) hgd rfl (pa_cons' (pv' 0) (pa_cons' (pe_lst' (pa_cons' (pe_add' (pe_mul' (pe_C' pe_int fun _ => .int _) (pv' 5)) (pe_C' pe_int fun _ => .int _)) (pa_cons' (pe_add' (pe_C' pe_int fun _ => .int _) (pe_M C__law_take (passT tk) hr (by decide) hgd rfl (pa_cons' (pv' 0) (pa_cons' (pe_C' pe_int fun _ => .int _) pa_nil')) (aCons_len (aCons_len aNil_len)) rfl)) (pa_cons' (pe_M C__law_take (passT tk) hr (by decide) hgd rfl (pa_cons' (pv' 0) (pa_cons' (pe_C' pe_int fun _ => .int _) pa_nil')) (aCons_len (aCons_len aNil_len)) rfl) pa_nil')))) pa_nil')) (aCons_len (aCons_len aNil_len)) rfl) pa_nil'))))) (pss_frz 3 (pss_cons' (ps_set' (i := 6) sc.nd rfl (by first | exact Or.inl rfl | exact Or.inr rfl) (pe_repA' (pe_lst' (pa_cons' (pe_C' pe_int fun _ => .int _) pa_nil')) (pv' 2))) (pss_cons' (ps_for' (passes_of rfl) rfl (pi_range1' rfl b_range (pa_cons' (pv' 1) pa_nil')) (pg_name' (i := 7) sc.nd rfl (by first | exact Or.inl rfl | exact Or.inr rfl)) (pss_cons' (ps_expr' (pe_append' (pv' 4) (pa_cons' (pe_tuple' rfl b_tuple (pa_cons' (pv' 6) pa_nil')) pa_nil'))) (pss_one' (ps_setLc' (i := 6) (own := [("_law_cell", 8), ("_law_point", 9)]) rfl sc.nd rfl rfl (sw_true rfl rfl rfl (by decide +kernel)) (pi_zip' rfl b_zip (pa_cons' (pv' 6) (pa_cons' (pv' 3) pa_nil'))) (blkOk_by (N := N__law_rows) (sc := defScope s__law_rows) (own := [("_law_cell", 8), ("_law_point", 9)]) (by decide +kernel)) (nmTg_seq (nmTgs_consG (nmTg (by decide)) (nmTgs_consG (nmTg (by decide)) nmTgs_nil))) (fun _ _ _ _ _ => (PGor (pg_tup rfl (pgs_cons (pg_name (i := 8) sc.nd rfl (by first | exact Or.inl rfl | exact Or.inr rfl)) (pgs_cons (pg_name (i := 9) sc.nd rfl (by first | exact Or.inl rfl | exact Or.inr rfl)) pgs_nil))) (pg_unl rfl (pgs_cons (pg_name (i := 8) sc.nd rfl (by first | exact Or.inl rfl | exact Or.inr rfl)) (pgs_cons (pg_name (i := 9) sc.nd rfl (by first | exact Or.inl rfl | exact Or.inr rfl)) pgs_nil))))) (fun _ _ _ _ _ => pts_nil') (fun _ _ _ _ _ => (pe_mod' (pe_int' rfl b_int (pa_cons' (pe_mul' (pv' 8) (pv' 9)) pa_nil')) (pe_C' pe_int fun _ => .int _))))))) (pss_cons' (ps_if' (pt_eq' (u64 hr) (pe_M C__law_take (passT tk) hr (by decide) hgd rfl (pa_cons' (pv' 0) (pa_cons' (pe_C' pe_int fun _ => .int _) pa_nil')) (aCons_len (aCons_len aNil_len)) rfl) (pe_C' pe_int fun _ => .int _)) (pss_one' (ps_setLcN (i := 4) (own := [("_law_at", 7)]) rfl sc.nd rfl rfl (sw_true rfl rfl rfl (by decide +kernel)) (pi_nOf (pi_range1' rfl b_range (pa_cons' (pv' 1) pa_nil'))) (blkOk_by (N := N__law_rows) (sc := defScope s__law_rows) (own := [("_law_at", 7)]) (by decide +kernel)) (nmTg (by decide)) (fun _ _ _ _ _ => (pg_name (i := 7) sc.nd rfl (by first | exact Or.inl rfl | exact Or.inr rfl))) (fun _ _ _ _ _ => pts_nil') (fun _ _ _ _ _ => (pe_tuple' rfl b_tuple (pa_cons' (pe_lc' (own := [("_law_disk", 5)]) rfl sc.nd (pi_range1' rfl b_range (pa_cons' (pv' 2) pa_nil')) (blkOk_by (N := N__law_rows) (sc := _) (own := [("_law_disk", 5)]) (by kernel_rfl)) (nmTg (by decide)) (fun _ _ _ _ _ => (pg_name (i := 5) sc.nd rfl (by first | exact Or.inl rfl | exact Or.inr rfl))) (fun _ _ _ _ _ => pts_nil') (fun _ _ _ _ _ => (pe_M C__law_take pass0 hr (by decide) hgd rfl (pa_cons' (pv' 0) (pa_cons' (pe_C' pe_int fun _ => .int _) pa_nil')) (aCons_len (aCons_len aNil_len)) rfl))) pa_nil'))))) pss_nil') (pss_frz 4 (pss_one' (ps_ret' (pe_tup' (pa_cons' (pe_tuple' rfl b_tuple (pa_cons' (pv' 3) pa_nil')) (pa_cons' (pv' 4) pa_nil')))))))))))))
abbrev s__law_sums : Stmt := top 27
abbrev N__law_sums : List Str := ["_law_rows_here", "_law_cells", "_law_row", "_law_one", "_law_cell"]
theorem sc__law_sums : FnScope N__law_sums ["_law_rows_here", "_law_cells"] (defScope s__law_sums) := ⟨rfl, rfl, rfl, by decide +kernel, rfl, by decide +kernel, by decide +kernel⟩
theorem ok__law_sums (F : FnP K "_law_sums" s__law_sums f fd) (gm : mg "_law_sums" = some (.ref f)) (b_tuple : mg "tuple" = none) (b_int : mg "int" = none) (b_sum : mg "sum" = none) (b_zip : mg "zip" = none) : CalD P w K mg base T "_law_sums" s__law_sums 1 ["_law_rows_here", "_law_cells"] f__law_sums :=
  CalD.mk' F gm (fun _ _ _ _ _ _ us hl => match us, hl with | [_, _], _ => rfl) (fnG_of F sc__law_sums rfl fun cdv A outer s H E hr hgd tk =>
    have sc := sc__law_sums
    (pss_one' (ps_ret' (pe_tuple' rfl b_tuple (pa_cons' (pe_lc' (own := [("_law_row", 2)]) rfl sc.nd (pi_seq' (pv' 0)) (blkOk_by (N := N__law_sums) (sc := defScope s__law_sums) (own := [("_law_row", 2)]) (by decide +kernel)) (nmTg (by decide)) (fun _ _ _ _ _ => (pg_name (i := 2) sc.nd rfl (by first | exact Or.inl rfl | exact Or.inr rfl))) (fun _ _ _ _ _ => pts_nil') (fun _ _ _ _ _ => (pe_mod' (pe_int' rfl b_int (pa_cons' (pe_sum' rfl rfl b_sum (pa_cons' (pe_lc' (own := [("_law_one", 3), ("_law_cell", 4)]) rfl sc.nd (pi_zip' rfl b_zip (pa_cons' (pv' 2) (pa_cons' (pv' 1) pa_nil'))) (blkOk_by (N := N__law_sums) (sc := _) (own := [("_law_one", 3), ("_law_cell", 4)]) (by kernel_rfl)) (nmTg_seq (nmTgs_consG (nmTg (by decide)) (nmTgs_consG (nmTg (by decide)) nmTgs_nil))) (fun _ _ _ _ _ => (PGor (pg_tup rfl (pgs_cons (pg_name (i := 3) sc.nd rfl (by first | exact Or.inl rfl | exact Or.inr rfl)) (pgs_cons (pg_name (i := 4) sc.nd rfl (by first | exact Or.inl rfl | exact Or.inr rfl)) pgs_nil))) (pg_unl rfl (pgs_cons (pg_name (i := 3) sc.nd rfl (by first | exact Or.inl rfl | exact Or.inr rfl)) (pgs_cons (pg_name (i := 4) sc.nd rfl (by first | exact Or.inl rfl | exact Or.inr rfl)) pgs_nil))))) (fun _ _ _ _ _ => pts_nil') (fun _ _ _ _ _ => (pe_mul' (pv' 3) (pv' 4)))) pa_nil')) pa_nil')) (pe_C' pe_int fun _ => .int _)))) pa_nil')))))
abbrev s__law_refused : Stmt := top 28
abbrev N__law_refused : List Str := ["_law_ask", "fault"]
theorem sc__law_refused : FnScope N__law_refused ["_law_ask"] (defScope s__law_refused) := ⟨rfl, rfl, rfl, by decide +kernel, rfl, by decide +kernel, by decide +kernel⟩
theorem ok__law_refused {CA_Refused IA_Refused CA_KeepError : Addr} (F : FnP K "_law_refused" s__law_refused f fd) (gm : mg "_law_refused" = some (.ref f)) (b_repr : mg "repr" = none) (b_isinstance : mg "isinstance" = none) (E_Refused : ErrD P K mg "Refused" "at" "no such value here" CA_Refused IA_Refused) (g_KeepError : mg "KeepError" = some (.ref CA_KeepError)) (kt_Refused_KeepError : PySem.W.kitOne K (.ref CA_Refused) (.ref CA_KeepError) = some true) (ext : TabOk K mg exTab) : HrdD P w K mg base T "_law_refused" s__law_refused "_law_ask" f__law_refused :=
  HrdD.mk' F gm sc__law_refused rfl (by first | exact Or.inl rfl | exact Or.inr (Or.inl rfl)) (fun _ _ _ _ _ _ us hl => match us, hl with | [_], _ => rfl) fun ask A outer s H cd lam w0 hr hgd C_ask =>
    have sc := sc__law_refused
    have tk := LamX.takes0
    (pss_cons' (ps_tryU ext rfl rfl sc.nd tk (fun E pn xe tk po => (pss_one' (ps_expr' (C_ask _ _ _ _ _ tk)))) (.cons rfl (by decide) E_Refused.sup.gC (i := 1) rfl rfl (fun a oe cls d pn hz hd => (pss_one' (ps_ret' (pe_tup' (pa_cons' (pe_C' pe_str fun _ => .str _) (pa_cons' (pe_repr' hgd (u200m hr) rfl b_repr (pa_cons' (pe_fld E_Refused.fld_ E_Refused.sup.gC E_Refused.sup.noN hz hd rfl (by first | exact Or.inl rfl | exact Or.inr (Or.inl rfl) | exact Or.inr (Or.inr rfl))) pa_nil')) (pa_cons' (pe_isX E_Refused.isx E_Refused.sup.gC kt_Refused_KeepError hz hd rfl (by first | exact Or.inl rfl | exact Or.inr (Or.inl rfl) | exact Or.inr (Or.inr rfl)) rfl b_isinstance rfl g_KeepError) pa_nil'))))))) .nil)) (pss_one' (ps_ret' (pe_C' pe_non fun _ => .non))))
abbrev s__law_none_right : Stmt := top 29
abbrev N__law_none_right : List Str := ["_law_box_here", "_law_table", "_law_data", "_law_rows_here", "_law_wrong", "_law_bad", "_law_odd", "_law_some", "_law_none", "_law_many", "_law_row"]
theorem sc__law_none_right : FnScope N__law_none_right ["_law_box_here", "_law_table", "_law_data"] (defScope s__law_none_right) := ⟨rfl, rfl, rfl, by decide +kernel, rfl, by decide +kernel, by decide +kernel⟩
theorem ok__law_none_right {cc P0 : Addr} (F : FnP K "_law_none_right" s__law_none_right f fd) (hc : fd.code = .ref cc) (TB : LamX.TabB base mg cc P0) (hT : (P0, ("_law_none_right.<locals>.<lambda>" : Str)) ∈ T) (hU : ∀ q ∈ T, q.1 = P0 → q.2 = ("_law_none_right.<locals>.<lambda>" : Str)) (gm : mg "_law_none_right" = some (.ref f)) (b_list : mg "list" = none) (b_repr : mg "repr" = none) (ft : FlOk K mg fldTab) (H__law_refused : HrdD P w K mg base T "_law_refused" s__law_refused "_law_ask" f__law_refused) (C__law_pick : CalD P w K mg base T "_law_pick" s__law_pick 2 ["_law_box_here", "_law_some"] f__law_pick) (C_Table___init__ : IniD P w K mg base T "Table" "Table.__init__" s_Table___init__ 6 ["self", "rows"] f_Table___init__) (C_sums_of_cells : CalD P w K mg base T "sums_of_cells" s_sums_of_cells 5 ["table", "cells"] f_sums_of_cells) (C_points_table : CalD P w K mg base T "points_table" s_points_table 8 ["points", "sums"] f_points_table) (C_power_table : CalD P w K mg base T "power_table" s_power_table 9 ["data", "sums"] f_power_table) : CalD P w K mg base T "_law_none_right" s__law_none_right 12 ["_law_box_here", "_law_table", "_law_data"] f__law_none_right :=
  CalD.mk' F gm (fun _ _ _ _ _ _ us hl => match us, hl with | [_, _, _], _ => rfl) (fnG_ofC F hc sc__law_none_right rfl fun A outer s H E hr hgd tk =>
    have sc := sc__law_none_right
    (pss_cons' (ps_setLc' (i := 3) (own := [("_law_row", 10)]) rfl sc.nd rfl rfl (sw_true rfl rfl rfl (by decide +kernel)) (pi_seq' (pe_fldT ft (pv' 1))) (blkOk_by (N := N__law_none_right) (sc := defScope s__law_none_right) (own := [("_law_row", 10)]) (by decide +kernel)) (nmTg (by decide)) (fun _ _ _ _ _ => (pg_name (i := 10) sc.nd rfl (by first | exact Or.inl rfl | exact Or.inr rfl))) (fun _ _ _ _ _ => pts_nil') (fun _ _ _ _ _ => (pe_list' rfl b_list (pa_cons' (pv' 10) pa_nil')))) (pss_cons' (ps_set' (i := 4) sc.nd rfl (by first | exact Or.inl rfl | exact Or.inr rfl) (pe_lst' (pa_cons' (pe_C' pe_non fun _ => .non) (pa_cons' (pe_C' pe_int fun _ => .int _) (pa_cons' (pe_C' pe_str fun _ => .str _) (pa_cons' (pe_tup' pa_nil') (pa_cons' (pe_lst' (pa_cons' (pe_tup' pa_nil') pa_nil')) (pa_cons' (pe_add' (pv' 3) (pe_lst' (pa_cons' (pe_add' (pe_ix' (fun _ _ => rfl) (pv' 3) (pe_C' pe_int fun _ => .int _)) (pe_lst' (pa_cons' (pe_C' pe_int fun _ => .int _) pa_nil'))) pa_nil'))) (pa_cons' (pe_add' (pv' 3) (pe_lst' (pa_cons' (pe_slice' (pe_ix' (fun _ _ => rfl) (pv' 3) (pe_C' pe_int fun _ => .int _)) (po_some' (pe_C' pe_int fun _ => .int _)) po_none') pa_nil'))) (pa_cons' (pe_lst' (pa_cons' (pe_repA' (pe_lst' (pa_cons' (pe_C' pe_int fun _ => .int _) pa_nil')) (pv' 2)) pa_nil')) (pa_cons' (pe_lst' (pa_cons' (pe_repA' (pe_lst' (pa_cons' (pe_C' pe_bl fun _ => .bl _) pa_nil')) (pv' 2)) pa_nil')) (pa_cons' (pe_lst' (pa_cons' (pe_repA' (pe_lst' (pa_cons' (pe_sub' (pe_C' pe_int fun _ => .int _) (pe_C' pe_int fun _ => .int _)) pa_nil')) (pv' 2)) pa_nil')) (pa_cons' (pe_lst' (pa_cons' (pe_repA' (pe_C' pe_str fun _ => .str _) (pv' 2)) pa_nil')) pa_nil'))))))))))))) (pss_cons' (ps_set' (i := 5) sc.nd rfl (by first | exact Or.inl rfl | exact Or.inr rfl) (pe_M C__law_pick (passT tk) hr (by decide) hgd rfl (pa_cons' (pv' 0) (pa_cons' (pe_add' (pv' 4) (pe_lst' (pa_cons' (pe_repA' (pe_slice' (pv' 3) po_none' (po_some' (pe_C' pe_int fun _ => .int _))) (pe_C' pe_int fun _ => .int _)) (pa_cons' (pe_lst' (pa_cons' (pe_repA' (pe_lst' (pa_cons' (pe_C' pe_int fun _ => .int _) pa_nil')) (pe_C' pe_int fun _ => .int _)) pa_nil')) (pa_cons' (pe_repA' (pe_lst' (pa_cons' (pe_C' pe_int fun _ => .int _) pa_nil')) (pv' 2)) (pa_cons' (pe_lst' (pa_cons' (pe_C' pe_non fun _ => .non) pa_nil')) pa_nil')))))) pa_nil')) (aCons_len (aCons_len aNil_len)) rfl)) (pss_cons' (ps_if' (pt_ne' (u64 hr) (pe_hrd (k := 9) H__law_refused rfl TB rfl hT hU (hr.mono (by decide)) hgd (LamX.lamS_by (sc := defScope s__law_none_right) (by decide +kernel)) rfl (fun _ _ _ _ _ => rfl) (fun A outer t G E f c' hr hgd tk => (pe_makeP C_Table___init__ (passT tk) hr (by decide) hgd rfl (cwa (ks := []) (pa_cons' (pv' 5) pa_nil') pk_nil') (kg_pos (n := 2)) (fun _ _ _ _ _ _ us ws h1 h2 => match us, ws, h1, h2 with | [_, _], [], _, _ => rfl) (aCons_len aNil_len) aNil_len))) (pe_tup' (pa_cons' (pe_C' pe_str fun _ => .str _) (pa_cons' (pe_repr' hgd (u200 hr) rfl b_repr (pa_cons' (pv' 5) pa_nil')) (pa_cons' (pe_C' pe_bl fun _ => .bl _) pa_nil'))))) (pss_one' (ps_ret' (pe_C' pe_bl fun _ => .bl _))) pss_nil') (pss_cons' (ps_set' (i := 6) sc.nd rfl (by first | exact Or.inl rfl | exact Or.inr rfl) (pe_M C__law_pick (passT tk) hr (by decide) hgd rfl (pa_cons' (pv' 0) (pa_cons' (pe_lst' (pa_cons' (pe_C' pe_non fun _ => .non) (pa_cons' (pe_repA' (pe_tup' (pa_cons' (pe_C' pe_int fun _ => .int _) pa_nil')) (pe_add' (pv' 2) (pe_C' pe_int fun _ => .int _))) (pa_cons' (pe_repA' (pe_tup' (pa_cons' (pe_C' pe_int fun _ => .int _) pa_nil')) (pv' 2)) (pa_cons' (pe_repA' (pe_tup' (pa_cons' (pe_C' pe_bl fun _ => .bl _) pa_nil')) (pv' 2)) (pa_cons' (pe_repA' (pe_C' pe_str fun _ => .str _) (pv' 2)) (pa_cons' (pe_C' pe_int fun _ => .int _) (pa_cons' (pe_repA' (pe_lst' (pa_cons' (pe_C' pe_non fun _ => .non) pa_nil')) (pv' 2)) pa_nil')))))))) pa_nil')) (aCons_len (aCons_len aNil_len)) rfl)) (pss_cons' (ps_if' (pt_ne' (u64 hr) (pe_hrd (k := 9) H__law_refused rfl TB rfl hT hU (hr.mono (by decide)) hgd (LamX.lamS_by (sc := defScope s__law_none_right) (by decide +kernel)) rfl (fun _ _ _ _ _ => rfl) (fun A outer t G E f c' hr hgd tk => (pe_P C_sums_of_cells (passT tk) hr (by decide) hgd rfl (pa_cons' (pv' 1) (pa_cons' (pv' 6) pa_nil')) (aCons_len (aCons_len aNil_len)) rfl))) (pe_tup' (pa_cons' (pe_C' pe_str fun _ => .str _) (pa_cons' (pe_repr' hgd (u200 hr) rfl b_repr (pa_cons' (pv' 6) pa_nil')) (pa_cons' (pe_C' pe_bl fun _ => .bl _) pa_nil'))))) (pss_one' (ps_ret' (pe_C' pe_bl fun _ => .bl _))) pss_nil') (pss_cons' (ps_asg' (pe_tup' (pa_cons' (pe_M C__law_pick (passT tk) hr (by decide) hgd rfl (pa_cons' (pv' 0) (pa_cons' (pe_lst' (pa_cons' (pe_C' pe_non fun _ => .non) (pa_cons' (pe_tup' pa_nil') (pa_cons' (pe_tup' (pa_cons' (pe_C' pe_int fun _ => .int _) pa_nil')) (pa_cons' (pe_repA' (pe_lst' (pa_cons' (pe_C' pe_int fun _ => .int _) pa_nil')) (pe_C' pe_int fun _ => .int _)) (pa_cons' (pe_C' pe_str fun _ => .str _) (pa_cons' (pe_C' pe_int fun _ => .int _) (pa_cons' (pe_tup' (pa_cons' (pe_C' pe_bl fun _ => .bl _) pa_nil')) pa_nil')))))))) pa_nil')) (aCons_len (aCons_len aNil_len)) rfl) (pa_cons' (pe_M C__law_pick (passT tk) hr (by decide) hgd rfl (pa_cons' (pv' 0) (pa_cons' (pe_lst' (pa_cons' (pe_C' pe_int fun _ => .int _) (pa_cons' (pe_C' pe_int fun _ => .int _) (pa_cons' (pe_C' pe_non fun _ => .non) (pa_cons' (pe_C' pe_bl fun _ => .bl _) (pa_cons' (pe_C' pe_str fun _ => .str _) (pa_cons' (pe_sub' (pe_C' pe_int fun _ => .int _) (pe_C' pe_int fun _ => .int _)) pa_nil'))))))) pa_nil')) (aCons_len (aCons_len aNil_len)) rfl) pa_nil'))) (pg_seq' (n := 2) rfl (pgs_cons' (pg_name' (i := 7) sc.nd rfl (by first | exact Or.inl rfl | exact Or.inr rfl)) (pgs_cons' (pg_name' (i := 8) sc.nd rfl (by first | exact Or.inl rfl | exact Or.inr rfl)) pgs_nil')))) (pss_cons' (ps_if' (pt_ne' (u64 hr) (pe_hrd (k := 9) H__law_refused rfl TB rfl hT hU (hr.mono (by decide)) hgd (LamX.lamS_by (sc := defScope s__law_none_right) (by decide +kernel)) rfl (fun _ _ _ _ _ => rfl) (fun A outer t G E f c' hr hgd tk => (pe_P C_points_table (passT tk) hr (by decide) hgd rfl (pa_cons' (pv' 7) (pa_cons' (pv' 8) pa_nil')) (aCons_len (aCons_len aNil_len)) rfl))) (pe_tup' (pa_cons' (pe_C' pe_str fun _ => .str _) (pa_cons' (pe_repr' hgd (u200 hr) rfl b_repr (pa_cons' (pv' 7) pa_nil')) (pa_cons' (pe_C' pe_bl fun _ => .bl _) pa_nil'))))) (pss_one' (ps_ret' (pe_C' pe_bl fun _ => .bl _))) pss_nil') (pss_cons' (ps_if' (pt_ne' (u64 hr) (pe_hrd (k := 9) H__law_refused rfl TB rfl hT hU (hr.mono (by decide)) hgd (LamX.lamS_by (sc := defScope s__law_none_right) (by decide +kernel)) rfl (fun _ _ _ _ _ => rfl) (fun A outer t G E f c' hr hgd tk => (pe_P C_points_table (passT tk) hr (by decide) hgd rfl (pa_cons' (pe_lst' (pa_cons' (pe_C' pe_int fun _ => .int _) (pa_cons' (pe_C' pe_int fun _ => .int _) pa_nil'))) (pa_cons' (pv' 8) pa_nil')) (aCons_len (aCons_len aNil_len)) rfl))) (pe_tup' (pa_cons' (pe_C' pe_str fun _ => .str _) (pa_cons' (pe_repr' hgd (u200 hr) rfl b_repr (pa_cons' (pv' 8) pa_nil')) (pa_cons' (pe_C' pe_bl fun _ => .bl _) pa_nil'))))) (pss_one' (ps_ret' (pe_C' pe_bl fun _ => .bl _))) pss_nil') (pss_cons' (ps_set' (i := 9) sc.nd rfl (by first | exact Or.inl rfl | exact Or.inr rfl) (pe_M C__law_pick (passT tk) hr (by decide) hgd rfl (pa_cons' (pv' 0) (pa_cons' (pe_lst' (pa_cons' (pe_C' pe_int fun _ => .int _) (pa_cons' (pe_C' pe_int fun _ => .int _) (pa_cons' (pe_C' pe_non fun _ => .non) (pa_cons' (pe_C' pe_bl fun _ => .bl _) (pa_cons' (pe_C' pe_str fun _ => .str _) (pa_cons' (pe_sub' (pe_C' pe_int fun _ => .int _) (pe_C' pe_int fun _ => .int _)) pa_nil'))))))) pa_nil')) (aCons_len (aCons_len aNil_len)) rfl)) (pss_cons' (ps_if' (pt_ne' (u64 hr) (pe_hrd (k := 9) H__law_refused rfl TB rfl hT hU (hr.mono (by decide)) hgd (LamX.lamS_by (sc := defScope s__law_none_right) (by decide +kernel)) rfl (fun _ _ _ _ _ => rfl) (fun A outer t G E f c' hr hgd tk => (pe_P C_power_table (passT tk) hr (by decide) hgd rfl (pa_cons' (pv' 9) (pa_cons' (pv' 8) pa_nil')) (aCons_len (aCons_len aNil_len)) rfl))) (pe_tup' (pa_cons' (pe_C' pe_str fun _ => .str _) (pa_cons' (pe_repr' hgd (u200 hr) rfl b_repr (pa_cons' (pv' 9) pa_nil')) (pa_cons' (pe_C' pe_bl fun _ => .bl _) pa_nil'))))) (pss_one' (ps_ret' (pe_C' pe_bl fun _ => .bl _))) pss_nil') (pss_one' (ps_ret' (pe_eq' (u64 hr) (pe_hrd (k := 9) H__law_refused rfl TB rfl hT hU (hr.mono (by decide)) hgd (LamX.lamS_by (sc := defScope s__law_none_right) (by decide +kernel)) rfl (fun _ _ _ _ _ => rfl) (fun A outer t G E f c' hr hgd tk => (pe_P C_power_table (passT tk) hr (by decide) hgd rfl (pa_cons' (pe_C' pe_int fun _ => .int _) (pa_cons' (pv' 8) pa_nil')) (aCons_len (aCons_len aNil_len)) rfl))) (pe_tup' (pa_cons' (pe_C' pe_str fun _ => .str _) (pa_cons' (pe_repr' hgd (u200 hr) rfl b_repr (pa_cons' (pv' 8) pa_nil')) (pa_cons' (pe_C' pe_bl fun _ => .bl _) pa_nil')))))))))))))))))))
abbrev s_law : Stmt := top 30
abbrev N_law : List Str := ["_law_script", "_law_k", "_law_box_here", "_law_sums_here", "_law_data", "_law_points", "_law_rows_here", "_law_table", "_law_other", "_law_one", "_law_more", "_law_times", "_law_both", "_law_due", "_law_powers", "_law_plain", "_law_at", "_law_odd", "_law_row", "_law_disk", "_law_here", "_law_there", "_law_cell", "_law_point"]
theorem sc_law : FnScope N_law ["_law_script"] (defScope s_law) := ⟨rfl, rfl, rfl, by decide +kernel, rfl, by decide +kernel, by decide +kernel⟩
theorem okG_law (F : FnP K "law" s_law f fd) (b_range : mg "range" = none) (b_list : mg "list" = none) (b_repr : mg "repr" = none) (b_tuple : mg "tuple" = none) (b_int : mg "int" = none) (b_zip : mg "zip" = none) (ft : FlOk K mg fldTab) (C__law_box : CalD P w K mg base T "_law_box" s__law_box 1 ["_law_script", "_law_k"] f__law_box) (C__law_take : CalD P w K mg base T "_law_take" s__law_take 1 ["_law_box_here", "_law_many"] f__law_take) (C__law_rows : CalD P w K mg base T "_law_rows" s__law_rows 3 ["_law_box_here", "_law_sums_here", "_law_data"] f__law_rows) (C_Table___init__ : IniD P w K mg base T "Table" "Table.__init__" s_Table___init__ 6 ["self", "rows"] f_Table___init__) (C_Table___eq__ : EqD P w K mg base T "Table" 1 f_Table___eq__) (C_sums_of_cells : CalD P w K mg base T "sums_of_cells" s_sums_of_cells 5 ["table", "cells"] f_sums_of_cells) (C__law_sums : CalD P w K mg base T "_law_sums" s__law_sums 1 ["_law_rows_here", "_law_cells"] f__law_sums) (C_points_table : CalD P w K mg base T "points_table" s_points_table 8 ["points", "sums"] f_points_table) (C_power_table : CalD P w K mg base T "power_table" s_power_table 9 ["data", "sums"] f_power_table) (C__law_none_right : CalD P w K mg base T "_law_none_right" s__law_none_right 12 ["_law_box_here", "_law_table", "_law_data"] f__law_none_right) : FnG P w K mg base 13 f fd ["_law_script"] (spM K mg T 1 f_law) :=
  fnG_of F sc_law rfl fun cdv A outer s H E hr hgd tk =>
    have sc := sc_law
    (pss_cons' (ps_for' (passes_of rfl) rfl (pi_range1' rfl b_range (pa_cons' (pe_C' pe_int fun _ => .int _) pa_nil')) (pg_name' (i := 1) sc.nd rfl (by first | exact Or.inl rfl | exact Or.inr rfl)) (pss_cons' (ps_set' (i := 2) sc.nd rfl (by first | exact Or.inl rfl | exact Or.inr rfl) (pe_M C__law_box (passT tk) hr (by decide) hgd rfl (pa_cons' (pv' 0) (pa_cons' (pv' 1) pa_nil')) (aCons_len (aCons_len aNil_len)) rfl)) (pss_cons' (ps_par' (i := 3) (j := 4) rfl sc.nd rfl rfl (by decide) rfl rfl (pa_cons' (pe_add' (pe_C' pe_int fun _ => .int _) (pe_M C__law_take (passT tk) hr (by decide) hgd rfl (pa_cons' (pv' 2) (pa_cons' (pe_C' pe_int fun _ => .int _) pa_nil')) (aCons_len (aCons_len aNil_len)) rfl)) (pa_cons' (pe_add' (pe_C' pe_int fun _ => .int _) (pe_M C__law_take (passT tk) hr (by decide) hgd rfl (pa_cons' (pv' 2) (pa_cons' (pe_C' pe_int fun _ => .int _) pa_nil')) (aCons_len (aCons_len aNil_len)) rfl)) pa_nil')) (by with_unfolding_all rfl)) (pss_cons' (ps_asg' (pe_M C__law_rows (passT tk) hr (by decide) hgd rfl (pa_cons' (pv' 2) (pa_cons' (pv' 3) (pa_cons' (pv' 4) pa_nil'))) (aCons_len (aCons_len (aCons_len aNil_len))) rfl) (pg_seq' (n := 2) rfl (pgs_cons' (pg_name' (i := 5) sc.nd rfl (by first | exact Or.inl rfl | exact Or.inr rfl)) (pgs_cons' (pg_name' (i := 6) sc.nd rfl (by first | exact Or.inl rfl | exact Or.inr rfl)) pgs_nil')))) (pss_cons' (ps_set' (i := 7) sc.nd rfl (by first | exact Or.inl rfl | exact Or.inr rfl) (pe_makeP C_Table___init__ (passT tk) hr (by decide) hgd rfl (cwa (ks := []) (pa_cons' (pe_lc' (own := [("_law_row", 18)]) rfl sc.nd (pi_seq' (pv' 6)) (blkOk_by (N := N_law) (sc := defScope s_law) (own := [("_law_row", 18)]) (by decide +kernel)) (nmTg (by decide)) (fun _ _ _ _ _ => (pg_name (i := 18) sc.nd rfl (by first | exact Or.inl rfl | exact Or.inr rfl))) (fun _ _ _ _ _ => pts_nil') (fun _ _ _ _ _ => (pe_list' rfl b_list (pa_cons' (pv' 18) pa_nil')))) pa_nil') pk_nil') (kg_pos (n := 2)) (fun _ _ _ _ _ _ us ws h1 h2 => match us, ws, h1, h2 with | [_, _], [], _, _ => rfl) (aCons_len aNil_len) aNil_len)) (pss_cons' (ps_if' (PW.pt (pw_or' (pt_ne' (u64 hr) (pe_repr' hgd (u200 hr) rfl b_repr (pa_cons' (pe_tup' (pa_cons' (pe_fldT ft (pv' 7)) (pa_cons' (pe_fldT ft (pv' 7)) (pa_cons' (pe_fldT ft (pv' 7)) pa_nil')))) pa_nil')) (pe_repr' hgd (u200 hr) rfl b_repr (pa_cons' (pe_tup' (pa_cons' (pe_tuple' rfl b_tuple (pa_cons' (pv' 6) pa_nil')) (pa_cons' (pv' 4) (pa_cons' (pv' 3) pa_nil')))) pa_nil'))) (pw_or1' (pt_isNot' (pe_eqO1 C_Table___eq__ callR_P hr (by decide) hgd (pv' 7) (pe_makeP C_Table___init__ (passT tk) hr (by decide) hgd rfl (cwa0 (ks := ["rows"]) (pk_cons' (pe_tuple' rfl b_tuple (pa_cons' (pv' 6) pa_nil')) pk_nil')) (kg_perm (a := 1) (b := 1) [0, 1] (fun ds h => match ds, h with | [_, _], _ => rfl)) (fun _ _ _ _ _ _ us ws h1 h2 => match us, ws, h1, h2 with | [_], [_], _, _ => rfl) aNil_len (aCons_len aNil_len))) (pe_C' pe_bl fun _ => .bl _))))) (pss_one' (ps_ret' (pe_C' pe_bl fun _ => .bl _))) pss_nil') (pss_cons' (ps_set' (i := 8) sc.nd rfl (by first | exact Or.inl rfl | exact Or.inr rfl) (pe_add' (pe_lc' (own := [("_law_row", 18)]) rfl sc.nd (pi_seq' (pe_slice' (pv' 6) po_none' (po_some' (pe_C' pe_int fun _ => .int _)))) (blkOk_by (N := N_law) (sc := defScope s_law) (own := [("_law_row", 18)]) (by decide +kernel)) (nmTg (by decide)) (fun _ _ _ _ _ => (pg_name (i := 18) sc.nd rfl (by first | exact Or.inl rfl | exact Or.inr rfl))) (fun _ _ _ _ _ => pts_nil') (fun _ _ _ _ _ => (pe_add' (pe_tuple' rfl b_tuple (pa_cons' (pe_lst' (pa_cons' (pe_mod' (pe_int' rfl b_int (pa_cons' (pe_add' (pe_ix' (fun _ _ => rfl) (pv' 18) (pe_C' pe_int fun _ => .int _)) (pe_C' pe_int fun _ => .int _)) pa_nil')) (pe_C' pe_int fun _ => .int _)) pa_nil')) pa_nil')) (pe_slice' (pv' 18) (po_some' (pe_C' pe_int fun _ => .int _)) po_none')))) (pe_slice' (pv' 6) (po_some' (pe_C' pe_int fun _ => .int _)) po_none'))) (pss_cons' (ps_if' (PW.pt (pw_or' (pt_isNot' (pe_eqO1 C_Table___eq__ callR_P hr (by decide) hgd (pv' 7) (pe_makeP C_Table___init__ (passT tk) hr (by decide) hgd rfl (cwa (ks := []) (pa_cons' (pv' 8) pa_nil') pk_nil') (kg_pos (n := 2)) (fun _ _ _ _ _ _ us ws h1 h2 => match us, ws, h1, h2 with | [_, _], [], _, _ => rfl) (aCons_len aNil_len) aNil_len)) (pe_C' pe_bl fun _ => .bl _)) (pw_or1' (pt_isNot' (pe_eqO1 C_Table___eq__ callR_P hr (by decide) hgd (pv' 7) (pv' 6)) (pe_C' pe_bl fun _ => .bl _))))) (pss_one' (ps_ret' (pe_C' pe_bl fun _ => .bl _))) pss_nil') (pss_cons' (ps_par' (i := 9) (j := 10) rfl sc.nd rfl rfl (by decide) rfl rfl (pa_cons' (pe_tuple' rfl b_tuple (pa_cons' (pe_lc' (own := [("_law_disk", 19)]) rfl sc.nd (pi_range1' rfl b_range (pa_cons' (pv' 4) pa_nil')) (blkOk_by (N := N_law) (sc := defScope s_law) (own := [("_law_disk", 19)]) (by decide +kernel)) (nmTg (by decide)) (fun _ _ _ _ _ => (pg_name (i := 19) sc.nd rfl (by first | exact Or.inl rfl | exact Or.inr rfl))) (fun _ _ _ _ _ => pts_nil') (fun _ _ _ _ _ => (pe_M C__law_take pass0 hr (by decide) hgd rfl (pa_cons' (pv' 2) (pa_cons' (pe_C' pe_int fun _ => .int _) pa_nil')) (aCons_len (aCons_len aNil_len)) rfl))) pa_nil')) (pa_cons' (pe_tuple' rfl b_tuple (pa_cons' (pe_lc' (own := [("_law_disk", 19)]) rfl sc.nd (pi_range1' rfl b_range (pa_cons' (pv' 4) pa_nil')) (blkOk_by (N := N_law) (sc := defScope s_law) (own := [("_law_disk", 19)]) (by decide +kernel)) (nmTg (by decide)) (fun _ _ _ _ _ => (pg_name (i := 19) sc.nd rfl (by first | exact Or.inl rfl | exact Or.inr rfl))) (fun _ _ _ _ _ => pts_nil') (fun _ _ _ _ _ => (pe_M C__law_take pass0 hr (by decide) hgd rfl (pa_cons' (pv' 2) (pa_cons' (pe_C' pe_int fun _ => .int _) pa_nil')) (aCons_len (aCons_len aNil_len)) rfl))) pa_nil')) pa_nil')) (by with_unfolding_all rfl)) (pss_cons' (ps_set' (i := 11) sc.nd rfl (by first | exact Or.inl rfl | exact Or.inr rfl) (pe_M C__law_take (passT tk) hr (by decide) hgd rfl (pa_cons' (pv' 2) (pa_cons' (pe_C' pe_int fun _ => .int _) pa_nil')) (aCons_len (aCons_len aNil_len)) rfl)) (pss_cons' (ps_if' (PW.pt (pw_or' (pt_ne' (u64 hr) (pe_repr' hgd (u200 hr) rfl b_repr (pa_cons' (pe_P C_sums_of_cells (passT tk) hr (by decide) hgd rfl (pa_cons' (pv' 7) (pa_cons' (pv' 9) pa_nil')) (aCons_len (aCons_len aNil_len)) rfl) pa_nil')) (pe_repr' hgd (u200 hr) rfl b_repr (pa_cons' (pe_P C__law_sums (passT tk) hr (by decide) hgd rfl (pa_cons' (pv' 6) (pa_cons' (pv' 9) pa_nil')) (aCons_len (aCons_len aNil_len)) rfl) pa_nil'))) (pw_or1' (pt_ne' (u64 hr) (pe_K0 (ks := ["cells", "table"]) (idx := [1, 0]) (b := 2) C_sums_of_cells (fun _ _ _ _ _ _ us ws h1 h2 => match us, ws, h1, h2 with | [], [_, _], _, _ => rfl) (fun ds h => match ds, h with | [_, _], _ => rfl) (passT tk) hr (by decide) hgd rfl (pk_cons' (pe_list' rfl b_list (pa_cons' (pv' 9) pa_nil')) (pk_cons' (pv' 7) pk_nil')) (aCons_len (aCons_len aNil_len))) (pe_P C__law_sums (passT tk) hr (by decide) hgd rfl (pa_cons' (pv' 6) (pa_cons' (pv' 9) pa_nil')) (aCons_len (aCons_len aNil_len)) rfl))))) (pss_one' (ps_ret' (pe_C' pe_bl fun _ => .bl _))) pss_nil') (pss_cons' (ps_set' (i := 12) sc.nd rfl (by first | exact Or.inl rfl | exact Or.inr rfl) (pe_tuple' rfl b_tuple (pa_cons' (pe_lc' (own := [("_law_here", 20), ("_law_there", 21)]) rfl sc.nd (pi_zip' rfl b_zip (pa_cons' (pv' 9) (pa_cons' (pv' 10) pa_nil'))) (blkOk_by (N := N_law) (sc := defScope s_law) (own := [("_law_here", 20), ("_law_there", 21)]) (by decide +kernel)) (nmTg_seq (nmTgs_consG (nmTg (by decide)) (nmTgs_consG (nmTg (by decide)) nmTgs_nil))) (fun _ _ _ _ _ => (PGor (pg_tup rfl (pgs_cons (pg_name (i := 20) sc.nd rfl (by first | exact Or.inl rfl | exact Or.inr rfl)) (pgs_cons (pg_name (i := 21) sc.nd rfl (by first | exact Or.inl rfl | exact Or.inr rfl)) pgs_nil))) (pg_unl rfl (pgs_cons (pg_name (i := 20) sc.nd rfl (by first | exact Or.inl rfl | exact Or.inr rfl)) (pgs_cons (pg_name (i := 21) sc.nd rfl (by first | exact Or.inl rfl | exact Or.inr rfl)) pgs_nil))))) (fun _ _ _ _ _ => pts_nil') (fun _ _ _ _ _ => (pe_mod' (pe_int' rfl b_int (pa_cons' (pe_add' (pv' 20) (pe_mul' (pv' 11) (pv' 21))) pa_nil')) (pe_C' pe_int fun _ => .int _)))) pa_nil'))) (pss_cons' (ps_set' (i := 13) sc.nd rfl (by first | exact Or.inl rfl | exact Or.inr rfl) (pe_tuple' rfl b_tuple (pa_cons' (pe_lc' (own := [("_law_here", 20), ("_law_there", 21)]) rfl sc.nd (pi_zip' rfl b_zip (pa_cons' (pe_P C_sums_of_cells (passT tk) hr (by decide) hgd rfl (pa_cons' (pv' 7) (pa_cons' (pv' 9) pa_nil')) (aCons_len (aCons_len aNil_len)) rfl) (pa_cons' (pe_P C_sums_of_cells (passT tk) hr (by decide) hgd rfl (pa_cons' (pv' 7) (pa_cons' (pv' 10) pa_nil')) (aCons_len (aCons_len aNil_len)) rfl) pa_nil'))) (blkOk_by (N := N_law) (sc := defScope s_law) (own := [("_law_here", 20), ("_law_there", 21)]) (by decide +kernel)) (nmTg_seq (nmTgs_consG (nmTg (by decide)) (nmTgs_consG (nmTg (by decide)) nmTgs_nil))) (fun _ _ _ _ _ => (PGor (pg_tup rfl (pgs_cons (pg_name (i := 20) sc.nd rfl (by first | exact Or.inl rfl | exact Or.inr rfl)) (pgs_cons (pg_name (i := 21) sc.nd rfl (by first | exact Or.inl rfl | exact Or.inr rfl)) pgs_nil))) (pg_unl rfl (pgs_cons (pg_name (i := 20) sc.nd rfl (by first | exact Or.inl rfl | exact Or.inr rfl)) (pgs_cons (pg_name (i := 21) sc.nd rfl (by first | exact Or.inl rfl | exact Or.inr rfl)) pgs_nil))))) (fun _ _ _ _ _ => pts_nil') (fun _ _ _ _ _ => (pe_mod' (pe_int' rfl b_int (pa_cons' (pe_add' (pv' 20) (pe_mul' (pv' 11) (pv' 21))) pa_nil')) (pe_C' pe_int fun _ => .int _)))) pa_nil'))) (pss_cons' (ps_if' (pt_ne' (u64 hr) (pe_P C_sums_of_cells (passT tk) hr (by decide) hgd rfl (pa_cons' (pv' 7) (pa_cons' (pv' 12) pa_nil')) (aCons_len (aCons_len aNil_len)) rfl) (pv' 13)) (pss_one' (ps_ret' (pe_C' pe_bl fun _ => .bl _))) pss_nil') (pss_cons' (ps_par' (i := 14) (j := 15) rfl sc.nd rfl rfl (by decide) rfl rfl (pa_cons' (pe_newL pa_nil') (pa_cons' (pe_repA' (pe_lst' (pa_cons' (pe_C' pe_int fun _ => .int _) pa_nil')) (pv' 4)) pa_nil')) (by with_unfolding_all rfl)) (pss_cons' (ps_for' (passes_of rfl) rfl (pi_range1' rfl b_range (pa_cons' (pv' 3) pa_nil')) (pg_name' (i := 16) sc.nd rfl (by first | exact Or.inl rfl | exact Or.inr rfl)) (pss_cons' (ps_expr' (pe_append' (pv' 14) (pa_cons' (pe_tuple' rfl b_tuple (pa_cons' (pv' 15) pa_nil')) pa_nil'))) (pss_one' (ps_setLc' (i := 15) (own := [("_law_cell", 22), ("_law_point", 23)]) rfl sc.nd rfl rfl (sw_true rfl rfl rfl (by decide +kernel)) (pi_zip' rfl b_zip (pa_cons' (pv' 15) (pa_cons' (pv' 5) pa_nil'))) (blkOk_by (N := N_law) (sc := defScope s_law) (own := [("_law_cell", 22), ("_law_point", 23)]) (by decide +kernel)) (nmTg_seq (nmTgs_consG (nmTg (by decide)) (nmTgs_consG (nmTg (by decide)) nmTgs_nil))) (fun _ _ _ _ _ => (PGor (pg_tup rfl (pgs_cons (pg_name (i := 22) sc.nd rfl (by first | exact Or.inl rfl | exact Or.inr rfl)) (pgs_cons (pg_name (i := 23) sc.nd rfl (by first | exact Or.inl rfl | exact Or.inr rfl)) pgs_nil))) (pg_unl rfl (pgs_cons (pg_name (i := 22) sc.nd rfl (by first | exact Or.inl rfl | exact Or.inr rfl)) (pgs_cons (pg_name (i := 23) sc.nd rfl (by first | exact Or.inl rfl | exact Or.inr rfl)) pgs_nil))))) (fun _ _ _ _ _ => pts_nil') (fun _ _ _ _ _ => (pe_mod' (pe_int' rfl b_int (pa_cons' (pe_mul' (pv' 22) (pv' 23)) pa_nil')) (pe_C' pe_int fun _ => .int _))))))) (pss_cons' (ps_if' (PW.pt (pw_or' (pt_ne' (u64 hr) (pe_fldT ft (pe_P C_points_table (passT tk) hr (by decide) hgd rfl (pa_cons' (pv' 5) (pa_cons' (pv' 3) pa_nil')) (aCons_len (aCons_len aNil_len)) rfl)) (pe_tuple' rfl b_tuple (pa_cons' (pv' 14) pa_nil'))) (pw_or1' (pt_ne' (u64 hr) (pe_fldT ft (pe_K0 (ks := ["sums", "points"]) (idx := [1, 0]) (b := 2) C_points_table (fun _ _ _ _ _ _ us ws h1 h2 => match us, ws, h1, h2 with | [], [_, _], _, _ => rfl) (fun ds h => match ds, h with | [_, _], _ => rfl) (passT tk) hr (by decide) hgd rfl (pk_cons' (pv' 3) (pk_cons' (pe_list' rfl b_list (pa_cons' (pv' 5) pa_nil')) pk_nil')) (aCons_len (aCons_len aNil_len)))) (pe_tuple' rfl b_tuple (pa_cons' (pv' 14) pa_nil')))))) (pss_one' (ps_ret' (pe_C' pe_bl fun _ => .bl _))) pss_nil') (pss_cons' (ps_setLc' (i := 17) (own := [("_law_disk", 19)]) rfl sc.nd rfl rfl (sw_true rfl rfl rfl (by decide +kernel)) (pi_range1' rfl b_range (pa_cons' (pv' 4) pa_nil')) (blkOk_by (N := N_law) (sc := defScope s_law) (own := [("_law_disk", 19)]) (by decide +kernel)) (nmTg (by decide)) (fun _ _ _ _ _ => (pg_name (i := 19) sc.nd rfl (by first | exact Or.inl rfl | exact Or.inr rfl))) (fun _ _ _ _ _ => pts_nil') (fun _ _ _ _ _ => (pe_add' (pe_mul' (pe_C' pe_int fun _ => .int _) (pv' 19)) (pe_C' pe_int fun _ => .int _)))) (pss_cons' (ps_if' (PW.pt (pw_or' (pt_neO1 C_Table___eq__ callR_P hr (by decide) hgd (pe_P C_power_table (passT tk) hr (by decide) hgd rfl (pa_cons' (pv' 4) (pa_cons' (pv' 3) pa_nil')) (aCons_len (aCons_len aNil_len)) rfl) (pe_P C_points_table (passT tk) hr (by decide) hgd rfl (pa_cons' (pv' 17) (pa_cons' (pv' 3) pa_nil')) (aCons_len (aCons_len aNil_len)) rfl)) (pw_or1' (pt_ne' (u64 hr) (pe_ix' (fun _ _ => rfl) (pe_fldT ft (pe_K0 (ks := ["sums", "data"]) (idx := [1, 0]) (b := 2) C_power_table (fun _ _ _ _ _ _ us ws h1 h2 => match us, ws, h1, h2 with | [], [_, _], _, _ => rfl) (fun ds h => match ds, h with | [_, _], _ => rfl) (passT tk) hr (by decide) hgd rfl (pk_cons' (pv' 3) (pk_cons' (pv' 4) pk_nil')) (aCons_len (aCons_len aNil_len)))) (pe_C' pe_int fun _ => .int _)) (pe_repA' (pe_tup' (pa_cons' (pe_C' pe_int fun _ => .int _) pa_nil')) (pv' 4)))))) (pss_one' (ps_ret' (pe_C' pe_bl fun _ => .bl _))) pss_nil') (pss_one' (ps_if' (pt_not' (pt_tru' (pe_M C__law_none_right (passT tk) hr (by decide) hgd rfl (pa_cons' (pv' 2) (pa_cons' (pv' 7) (pa_cons' (pv' 4) pa_nil'))) (aCons_len (aCons_len (aCons_len aNil_len))) rfl))) (pss_one' (ps_ret' (pe_C' pe_bl fun _ => .bl _))) pss_nil'))))))))))))))))))))) (pss_one' (ps_ret' (pe_and' (pe_eq' (u64 hr) (pe_fldT ft (pe_P C_power_table (passT tk) hr (by decide) hgd rfl (pa_cons' (pe_C' pe_int fun _ => .int _) (pa_cons' (pe_C' pe_int fun _ => .int _) pa_nil')) (aCons_len (aCons_len aNil_len)) rfl)) (pe_C' pe_int fun _ => .int _)) (pe_and1' (pe_eq' (u64 hr) (pe_fldT ft (pe_P C_power_table (passT tk) hr (by decide) hgd rfl (pa_cons' (pe_C' pe_int fun _ => .int _) (pa_cons' (pe_C' pe_int fun _ => .int _) pa_nil')) (aCons_len (aCons_len aNil_len)) rfl)) (pe_C' pe_int fun _ => .int _)))))))
end
end K05

set_option Elab.async false
set_option linter.all false
set_option maxRecDepth 100000
set_option maxHeartbeats 0
namespace K05
open PySem PySem.Spec PyProof.Rows L2 Kw
def dd_is_integer : He.DefD := ⟨("is_integer", none), "is_integer", "is_integer", defArgs s_is_integer, defBody s_is_integer, defScope s_is_integer, [], []⟩
def dd_is_number : He.DefD := ⟨("is_number", none), "is_number", "is_number", defArgs s_is_number, defBody s_is_number, defScope s_is_number, [], []⟩
def dd_is_below : He.DefD := ⟨("is_below", none), "is_below", "is_below", defArgs s_is_below, defBody s_is_below, defScope s_is_below, [], []⟩
def dd_is_sequence : He.DefD := ⟨("is_sequence", none), "is_sequence", "is_sequence", defArgs s_is_sequence, defBody s_is_sequence, defScope s_is_sequence, [], []⟩
def dd_is_block : He.DefD := ⟨("is_block", none), "is_block", "is_block", defArgs s_is_block, defBody s_is_block, defScope s_is_block, [], []⟩
def dd_product : He.DefD := ⟨("product", none), "product", "product", defArgs s_product, defBody s_product, defScope s_product, [], []⟩
def dd_check_table : He.DefD := ⟨("check_table", none), "check_table", "check_table", defArgs s_check_table, defBody s_check_table, defScope s_check_table, [], []⟩
def dd_Table___init__ : He.DefD := ⟨("Table", some "__init__"), "__init__", "Table.__init__", defArgs s_Table___init__, defBody s_Table___init__, defScope s_Table___init__, [], []⟩
def dd_Table___eq__ : He.DefD := ⟨("Table", some "__eq__"), "__eq__", "Table.__eq__", defArgs s_Table___eq__, defBody s_Table___eq__, defScope s_Table___eq__, [], []⟩
def dd_need_many : He.DefD := ⟨("need_many", none), "need_many", "need_many", defArgs s_need_many, defBody s_need_many, defScope s_need_many, [], []⟩
def dd_points_table : He.DefD := ⟨("points_table", none), "points_table", "points_table", defArgs s_points_table, defBody s_points_table, defScope s_points_table, [], []⟩
def dd_power_table : He.DefD := ⟨("power_table", none), "power_table", "power_table", defArgs s_power_table, defBody s_power_table, defScope s_power_table, [], []⟩
def dd_sums_of_cells : He.DefD := ⟨("sums_of_cells", none), "sums_of_cells", "sums_of_cells", defArgs s_sums_of_cells, defBody s_sums_of_cells, defScope s_sums_of_cells, [], []⟩
def dd__law_box : He.DefD := ⟨("_law_box", none), "_law_box", "_law_box", defArgs s__law_box, defBody s__law_box, defScope s__law_box, [], []⟩
def dd__law_take : He.DefD := ⟨("_law_take", none), "_law_take", "_law_take", defArgs s__law_take, defBody s__law_take, defScope s__law_take, [], []⟩
def dd__law_pick : He.DefD := ⟨("_law_pick", none), "_law_pick", "_law_pick", defArgs s__law_pick, defBody s__law_pick, defScope s__law_pick, [], []⟩
def dd__law_rows : He.DefD := ⟨("_law_rows", none), "_law_rows", "_law_rows", defArgs s__law_rows, defBody s__law_rows, defScope s__law_rows, [], []⟩
def dd__law_sums : He.DefD := ⟨("_law_sums", none), "_law_sums", "_law_sums", defArgs s__law_sums, defBody s__law_sums, defScope s__law_sums, [], []⟩
def dd__law_refused : He.DefD := ⟨("_law_refused", none), "_law_refused", "_law_refused", defArgs s__law_refused, defBody s__law_refused, defScope s__law_refused, [], []⟩
def dd__law_none_right : He.DefD := ⟨("_law_none_right", none), "_law_none_right", "_law_none_right", defArgs s__law_none_right, defBody s__law_none_right, defScope s__law_none_right, [], []⟩
def dd_law : He.DefD := ⟨("law", none), "law", "law", defArgs s_law, defBody s_law, defScope s_law, [], []⟩
def fn : List He.DefD := [dd_is_integer, dd_is_number, dd_is_below, dd_is_sequence, dd_is_block, dd_product, dd_check_table, dd_Table___init__, dd_Table___eq__, dd_need_many, dd_points_table, dd_power_table, dd_sums_of_cells, dd__law_box, dd__law_take, dd__law_pick, dd__law_rows, dd__law_sums, dd__law_refused, dd__law_none_right, dd_law]
def fa : List He.Fa := [.glo "is_integer", .glo "is_number", .glo "is_below", .glo "is_sequence", .glo "is_block", .glo "product", .glo "check_table", .mkr "Table", .meth "Table" "__eq__", .glo "need_many", .glo "points_table", .glo "power_table", .glo "sums_of_cells", .glo "_law_box", .glo "_law_take", .glo "_law_pick", .glo "_law_rows", .glo "_law_sums", .glo "_law_refused", .glo "_law_none_right", .glo "law", .free "isinstance", .free "int", .free "bool", .free "tuple", .free "list", .free "len", .free "all", .free "sum", .free "zip", .free "range", .free "abs", .free "repr", .int "MOST_CELL" 257, .int "CELL" 257, .int "MOST_SUMS" 8, .int "MOST_DATA" 12, .glo "Refused", .glo "KeepError", .free "super", .glo "Table", .cls "Table", .noat "Table" "rows", .noat "Table" "data", .noat "Table" "sums"]
abbrev R : PySem.W.OpenRow := PySem.W.OpenLaw.row PySem.Challenge.rw_keptwhole_k05_tables_and_sums
def ex (K : PySem.W.Frag) : Bool := (supB K "/claim/cut.py" "Refused" "at" "no such value here" && (exmB K exTab && (kitB2 K "Refused" "KeepError" true && (iscB K "Table" && eqcB K "Table"))))
abbrev hk : PySem.W.Hook := hookS 5 fa fn [("_law_none_right", none)] ex
def ob (s : PySem.W.SharedT) : He.AlX := obsS 5 fa fn [("_law_none_right", none)] ex (HandSHeadRun.getT s)
theorem ob_eq (s : PySem.W.SharedT) : ob s = hk.obs s.abs := obsS_eq (HandSHeadRun.getT_eq s)
def loose : List Str := (["KeepError", "Refused", "MOST_CELL", "is_integer", "is_number", "is_below", "is_sequence", "is_block", "CELL", "product", "MOST_SUMS", "MOST_DATA", "check_table", "Table", "need_many", "points_table"] : List Str) ++ (["power_table", "sums_of_cells", "_law_box", "_law_take", "_law_pick", "_law_rows", "_law_sums", "_law_refused", "_law_none_right"] : List Str)
theorem run (w : World) : HandSHeadRun.RunEq R (PySem.W.view R.prog [30]) hk ob 8000 loose w := by
  intro os
  kernel_rfl
theorem facts {P : Program} {w : World} {K : PySem.W.Frag} {h : Heap} {mg : Str → Option Value} {f : Addr} {T : List (Addr × Str)} (X : K.In h) (G : h.Ns mainGlobals mg) (hfa : mg ("law" : Str) = some (.ref f)) (c : He.SaysX fa fn [] [("_law_none_right", none)] ex w h K) (hfile : P.main.file = "/claim/cut.py") (htop : (P.main.scope.names.lookup ("super" : Str)).isSome = false) :
    ∃ fd : FuncData, (∀ (s : Shared) (v : Value), BindsTo s fd ⟨[v], []⟩ [("_law_script", v)]) ∧ ∀ base : Heap, K.In base → base.Ns mainGlobals mg → LamX.TabB base mg (He.cT K ("_law_none_right", none)).1 (He.cT K ("_law_none_right", none)).2 → FnG P w K mg base 13 f fd ["_law_script"] (spM K mg [((He.cT K ("_law_none_right", none)).2, ("_law_none_right.<locals>.<lambda>" : Str))] 1 f_law) := by
  obtain ⟨fd_is_integer, F_is_integer⟩ := c.t.d.def_ 0 (d := dd_is_integer) rfl
  have g_is_integer := He.glo_ok X G (c.t.d.fact 0 (f := .glo "is_integer") rfl)
  obtain ⟨fd_is_number, F_is_number⟩ := c.t.d.def_ 1 (d := dd_is_number) rfl
  have g_is_number := He.glo_ok X G (c.t.d.fact 1 (f := .glo "is_number") rfl)
  obtain ⟨fd_is_below, F_is_below⟩ := c.t.d.def_ 2 (d := dd_is_below) rfl
  have g_is_below := He.glo_ok X G (c.t.d.fact 2 (f := .glo "is_below") rfl)
  obtain ⟨fd_is_sequence, F_is_sequence⟩ := c.t.d.def_ 3 (d := dd_is_sequence) rfl
  have g_is_sequence := He.glo_ok X G (c.t.d.fact 3 (f := .glo "is_sequence") rfl)
  obtain ⟨fd_is_block, F_is_block⟩ := c.t.d.def_ 4 (d := dd_is_block) rfl
  have g_is_block := He.glo_ok X G (c.t.d.fact 4 (f := .glo "is_block") rfl)
  obtain ⟨fd_product, F_product⟩ := c.t.d.def_ 5 (d := dd_product) rfl
  have g_product := He.glo_ok X G (c.t.d.fact 5 (f := .glo "product") rfl)
  obtain ⟨fd_check_table, F_check_table⟩ := c.t.d.def_ 6 (d := dd_check_table) rfl
  have g_check_table := He.glo_ok X G (c.t.d.fact 6 (f := .glo "check_table") rfl)
  obtain ⟨fd_Table___init__, F_Table___init__⟩ := c.t.d.def_ 7 (d := dd_Table___init__) rfl
  have me_Table___init__ := He.mkr_ok (c.t.d.fact 7 (f := .mkr "Table") rfl)
  obtain ⟨fd_Table___eq__, F_Table___eq__⟩ := c.t.d.def_ 8 (d := dd_Table___eq__) rfl
  have me_Table___eq__ := He.meth_ok (c.t.d.fact 8 (f := .meth "Table" "__eq__") rfl)
  obtain ⟨fd_need_many, F_need_many⟩ := c.t.d.def_ 9 (d := dd_need_many) rfl
  have g_need_many := He.glo_ok X G (c.t.d.fact 9 (f := .glo "need_many") rfl)
  obtain ⟨fd_points_table, F_points_table⟩ := c.t.d.def_ 10 (d := dd_points_table) rfl
  have g_points_table := He.glo_ok X G (c.t.d.fact 10 (f := .glo "points_table") rfl)
  obtain ⟨fd_power_table, F_power_table⟩ := c.t.d.def_ 11 (d := dd_power_table) rfl
  have g_power_table := He.glo_ok X G (c.t.d.fact 11 (f := .glo "power_table") rfl)
  obtain ⟨fd_sums_of_cells, F_sums_of_cells⟩ := c.t.d.def_ 12 (d := dd_sums_of_cells) rfl
  have g_sums_of_cells := He.glo_ok X G (c.t.d.fact 12 (f := .glo "sums_of_cells") rfl)
  obtain ⟨fd__law_box, F__law_box⟩ := c.t.d.def_ 13 (d := dd__law_box) rfl
  have g__law_box := He.glo_ok X G (c.t.d.fact 13 (f := .glo "_law_box") rfl)
  obtain ⟨fd__law_take, F__law_take⟩ := c.t.d.def_ 14 (d := dd__law_take) rfl
  have g__law_take := He.glo_ok X G (c.t.d.fact 14 (f := .glo "_law_take") rfl)
  obtain ⟨fd__law_pick, F__law_pick⟩ := c.t.d.def_ 15 (d := dd__law_pick) rfl
  have g__law_pick := He.glo_ok X G (c.t.d.fact 15 (f := .glo "_law_pick") rfl)
  obtain ⟨fd__law_rows, F__law_rows⟩ := c.t.d.def_ 16 (d := dd__law_rows) rfl
  have g__law_rows := He.glo_ok X G (c.t.d.fact 16 (f := .glo "_law_rows") rfl)
  obtain ⟨fd__law_sums, F__law_sums⟩ := c.t.d.def_ 17 (d := dd__law_sums) rfl
  have g__law_sums := He.glo_ok X G (c.t.d.fact 17 (f := .glo "_law_sums") rfl)
  obtain ⟨fd__law_refused, F__law_refused⟩ := c.t.d.def_ 18 (d := dd__law_refused) rfl
  have g__law_refused := He.glo_ok X G (c.t.d.fact 18 (f := .glo "_law_refused") rfl)
  obtain ⟨fd__law_none_right, F__law_none_right⟩ := c.t.d.def_ 19 (d := dd__law_none_right) rfl
  have g__law_none_right := He.glo_ok X G (c.t.d.fact 19 (f := .glo "_law_none_right") rfl)
  obtain ⟨fd_law, F_law⟩ := c.t.d.def_ 20 (d := dd_law) rfl
  have g_law := He.glo_ok X G (c.t.d.fact 20 (f := .glo "law") rfl)
  have b_isinstance := He.free_ok X G (c.t.d.fact 21 (f := .free "isinstance") rfl)
  have b_int := He.free_ok X G (c.t.d.fact 22 (f := .free "int") rfl)
  have b_bool := He.free_ok X G (c.t.d.fact 23 (f := .free "bool") rfl)
  have b_tuple := He.free_ok X G (c.t.d.fact 24 (f := .free "tuple") rfl)
  have b_list := He.free_ok X G (c.t.d.fact 25 (f := .free "list") rfl)
  have b_len := He.free_ok X G (c.t.d.fact 26 (f := .free "len") rfl)
  have b_all := He.free_ok X G (c.t.d.fact 27 (f := .free "all") rfl)
  have b_sum := He.free_ok X G (c.t.d.fact 28 (f := .free "sum") rfl)
  have b_zip := He.free_ok X G (c.t.d.fact 29 (f := .free "zip") rfl)
  have b_range := He.free_ok X G (c.t.d.fact 30 (f := .free "range") rfl)
  have b_abs := He.free_ok X G (c.t.d.fact 31 (f := .free "abs") rfl)
  have b_repr := He.free_ok X G (c.t.d.fact 32 (f := .free "repr") rfl)
  have c_MOST_CELL : GlD K mg "MOST_CELL" d_MOST_CELL := GlD.int (He.int_ok X G (c.t.d.fact 33 (f := .int "MOST_CELL" 257) rfl))
  have c_CELL : GlD K mg "CELL" d_CELL := GlD.int (He.int_ok X G (c.t.d.fact 34 (f := .int "CELL" 257) rfl))
  have c_MOST_SUMS : GlD K mg "MOST_SUMS" d_MOST_SUMS := GlD.int (He.int_ok X G (c.t.d.fact 35 (f := .int "MOST_SUMS" 8) rfl))
  have c_MOST_DATA : GlD K mg "MOST_DATA" d_MOST_DATA := GlD.int (He.int_ok X G (c.t.d.fact 36 (f := .int "MOST_DATA" 12) rfl))
  have gc_Table := He.glo_ok X G (c.t.d.fact 40 (f := .glo "Table") rfl)
  have cl_Table := He.cls_ok (c.t.d.fact 41 (f := .cls "Table") rfl)
  have na_Table_rows := He.noat_ok (c.t.d.fact 42 (f := .noat "Table" "rows") rfl)
  have na_Table_data := He.noat_ok (c.t.d.fact 43 (f := .noat "Table" "data") rfl)
  have na_Table_sums := He.noat_ok (c.t.d.fact 44 (f := .noat "Table" "sums") rfl)
  have ft : FlOk K mg fldTab := flOk_of fun q hq => by
    simp only [fldTab, List.mem_cons, List.mem_nil_iff, or_false] at hq
    rcases hq with h | h | h
    · subst h; exact ⟨gc_Table, cl_Table, na_Table_rows⟩
    · subst h; exact ⟨gc_Table, cl_Table, na_Table_data⟩
    · subst h; exact ⟨gc_Table, cl_Table, na_Table_sums⟩
  have g_Refused := He.glo_ok X G (c.t.d.fact 37 (f := .glo "Refused") rfl)
  have g_KeepError := He.glo_ok X G (c.t.d.fact 38 (f := .glo "KeepError") rfl)
  have b_super := He.free_ok X G (c.t.d.fact 39 (f := .free "super") rfl)
  have exx := c.more
  unfold ex at exx
  obtain ⟨x_Refused, exx⟩ := (Bool.and_eq_true _ _).mp exx
  obtain ⟨x_ext, exx⟩ := (Bool.and_eq_true _ _).mp exx
  obtain ⟨x_Refused_KeepError, exx⟩ := (Bool.and_eq_true _ _).mp exx
  obtain ⟨x_isc_Table, exx⟩ := (Bool.and_eq_true _ _).mp exx
  have x_eqc_Table := exx
  have E_Refused := supB_ok x_Refused g_Refused b_super hfile htop (by decide +kernel) (by decide) (fun _ _ _ _ _ _ _ _ _ _ _ _ _ _ _ _ _ _ _ _ _ _ _ => rfl) rfl rfl rfl (by decide)
  have ext : TabOk K mg exTab := exmB_ok x_ext fun q hq => by
    simp only [exTab, List.mem_cons, List.mem_nil_iff, or_false] at hq
    subst hq; exact ⟨by assumption, by assumption⟩
  have IS_Table := IsC.of gc_Table cl_Table x_isc_Table
  have kt_Refused_KeepError := of_decide_eq_true x_Refused_KeepError
  have e := hfa.symm.trans g_law
  cases e
  have bb := FunD.bindsA (ps := ["_law_script"]) F_law fun _ _ _ _ _ _ us hl => match us, hl with | [_], _ => rfl
  refine ⟨fd_law, fun s v => bb s [v] rfl, fun base _ _ TB__law_none_right => ?_⟩
  have hT__law_none_right : ((He.cT K ("_law_none_right", none)).2, ("_law_none_right.<locals>.<lambda>" : Str)) ∈ ([((He.cT K ("_law_none_right", none)).2, ("_law_none_right.<locals>.<lambda>" : Str))] : List (Addr × Str)) := by simp
  have hU__law_none_right : ∀ q ∈ ([((He.cT K ("_law_none_right", none)).2, ("_law_none_right.<locals>.<lambda>" : Str))] : List (Addr × Str)), q.1 = (He.cT K ("_law_none_right", none)).2 → q.2 = ("_law_none_right.<locals>.<lambda>" : Str) := fun q hq _ => by rw [List.mem_singleton.mp hq]
  have C_is_integer := ok_is_integer (P := P) (w := w) (base := base) (T := [((He.cT K ("_law_none_right", none)).2, ("_law_none_right.<locals>.<lambda>" : Str))]) F_is_integer g_is_integer b_isinstance b_int b_bool
  have C_is_number := ok_is_number (P := P) (w := w) (base := base) (T := [((He.cT K ("_law_none_right", none)).2, ("_law_none_right.<locals>.<lambda>" : Str))]) F_is_number g_is_number C_is_integer
  have C_is_below := ok_is_below (P := P) (w := w) (base := base) (T := [((He.cT K ("_law_none_right", none)).2, ("_law_none_right.<locals>.<lambda>" : Str))]) F_is_below g_is_below C_is_number
  have C_is_sequence := ok_is_sequence (P := P) (w := w) (base := base) (T := [((He.cT K ("_law_none_right", none)).2, ("_law_none_right.<locals>.<lambda>" : Str))]) F_is_sequence g_is_sequence b_isinstance b_tuple b_list
  have C_is_block := ok_is_block (P := P) (w := w) (base := base) (T := [((He.cT K ("_law_none_right", none)).2, ("_law_none_right.<locals>.<lambda>" : Str))]) F_is_block g_is_block b_len b_all c_MOST_CELL C_is_sequence C_is_below
  have C_product := ok_product (P := P) (w := w) (base := base) (T := [((He.cT K ("_law_none_right", none)).2, ("_law_none_right.<locals>.<lambda>" : Str))]) F_product g_product b_sum b_zip c_CELL
  have C_check_table := ok_check_table (P := P) (w := w) (base := base) (T := [((He.cT K ("_law_none_right", none)).2, ("_law_none_right.<locals>.<lambda>" : Str))]) F_check_table g_check_table b_len b_all b_tuple c_MOST_SUMS c_MOST_DATA E_Refused C_is_sequence C_is_block
  have C_Table___init__ := ok_Table___init__ (P := P) (w := w) (base := base) (T := [((He.cT K ("_law_none_right", none)).2, ("_law_none_right.<locals>.<lambda>" : Str))]) gc_Table me_Table___init__ F_Table___init__ b_len ft C_check_table
  have C_Table___eq__ := ok_Table___eq__ (P := P) (w := w) (base := base) (T := [((He.cT K ("_law_none_right", none)).2, ("_law_none_right.<locals>.<lambda>" : Str))]) gc_Table cl_Table me_Table___eq__ F_Table___eq__ b_isinstance ft IS_Table
  have C_Table___eq__ := EqD.of C_Table___eq__ gc_Table x_eqc_Table (fun _ _ _ _ _ _ us hl => match us, hl with | [_, _], _ => rfl)
  have C_need_many := ok_need_many (P := P) (w := w) (base := base) (T := [((He.cT K ("_law_none_right", none)).2, ("_law_none_right.<locals>.<lambda>" : Str))]) F_need_many g_need_many E_Refused C_is_below
  have C_points_table := ok_points_table (P := P) (w := w) (base := base) (T := [((He.cT K ("_law_none_right", none)).2, ("_law_none_right.<locals>.<lambda>" : Str))]) F_points_table g_points_table b_len b_range b_tuple b_zip c_MOST_DATA c_MOST_SUMS c_CELL E_Refused C_is_sequence C_is_block C_need_many C_Table___init__
  have C_power_table := ok_power_table (P := P) (w := w) (base := base) (T := [((He.cT K ("_law_none_right", none)).2, ("_law_none_right.<locals>.<lambda>" : Str))]) F_power_table g_power_table b_range c_MOST_DATA C_points_table C_need_many
  have C_sums_of_cells := ok_sums_of_cells (P := P) (w := w) (base := base) (T := [((He.cT K ("_law_none_right", none)).2, ("_law_none_right.<locals>.<lambda>" : Str))]) F_sums_of_cells g_sums_of_cells b_tuple E_Refused ft C_is_block C_product
  have C__law_box := ok__law_box (P := P) (w := w) (base := base) (T := [((He.cT K ("_law_none_right", none)).2, ("_law_none_right.<locals>.<lambda>" : Str))]) F__law_box g__law_box b_len b_abs b_int
  have C__law_take := ok__law_take (P := P) (w := w) (base := base) (T := [((He.cT K ("_law_none_right", none)).2, ("_law_none_right.<locals>.<lambda>" : Str))]) F__law_take g__law_take b_int
  have C__law_pick := ok__law_pick (P := P) (w := w) (base := base) (T := [((He.cT K ("_law_none_right", none)).2, ("_law_none_right.<locals>.<lambda>" : Str))]) F__law_pick g__law_pick b_len C__law_take
  have C__law_rows := ok__law_rows (P := P) (w := w) (base := base) (T := [((He.cT K ("_law_none_right", none)).2, ("_law_none_right.<locals>.<lambda>" : Str))]) F__law_rows g__law_rows b_range b_tuple b_zip b_int C__law_pick C__law_take
  have C__law_sums := ok__law_sums (P := P) (w := w) (base := base) (T := [((He.cT K ("_law_none_right", none)).2, ("_law_none_right.<locals>.<lambda>" : Str))]) F__law_sums g__law_sums b_tuple b_int b_sum b_zip
  have H__law_refused := ok__law_refused (P := P) (w := w) (base := base) (T := [((He.cT K ("_law_none_right", none)).2, ("_law_none_right.<locals>.<lambda>" : Str))]) F__law_refused g__law_refused b_repr b_isinstance E_Refused g_KeepError kt_Refused_KeepError ext
  have C__law_none_right := ok__law_none_right (P := P) (w := w) (base := base) (T := [((He.cT K ("_law_none_right", none)).2, ("_law_none_right.<locals>.<lambda>" : Str))]) F__law_none_right (code_ref F__law_none_right rfl) TB__law_none_right hT__law_none_right hU__law_none_right g__law_none_right b_list b_repr ft H__law_refused C__law_pick C_Table___init__ C_sums_of_cells C_points_table C_power_table
  exact okG_law F_law b_range b_list b_repr b_tuple b_int b_zip ft C__law_box C__law_take C__law_rows C_Table___init__ C_Table___eq__ C_sums_of_cells C__law_sums C_points_table C_power_table C__law_none_right
end K05

set_option Elab.async false
set_option linter.all false
set_option maxRecDepth 100000
namespace K05
open PySem PySem.Spec PyProof.Rows L2 Kw
theorem take_ok : TakeOk 2 f__law_take := by
  intro μ l m hb h0 h1
  obtain ⟨g, x, e⟩ := hb.two
  have hl : l < μ.length := (List.getElem?_eq_some_iff.mp e).1
  have i0 : gIx (.loc l) (.int 0) μ = some (.int g) := ixk (k := 0) e rfl
  have i1 : gIx (.loc l) (.int 1) μ = some (.int x) := ixk (k := 1) e rfl
  by_cases hp : 0 < g
  · have st : gSet (.loc l) (.int 0) (.int (g / m)) μ = some (μ.set l (.lst [.int (g / m), .int x])) := stk (k := 0) e (by simp)
    refine ⟨g % m, μ.set l (.lst [.int (g / m), .int x]), callM_ok (body_ret (δ := [some (.loc l), some (.int m), none, none]) rfl ?_) (by simp), Int.emod_nonneg _ (by omega), Int.emod_lt_of_pos _ h0, ⟨[g / m, x], rfl, List.getElem?_set_self hl⟩, .set l μ _⟩
    unfold m__law_take
    simp [eVar_run, i0, hp, gMod_int h0, gFdv_int h0 h1, st]
  · obtain ⟨r, hr⟩ : ∃ r : Int, r = (x * 40692 + 97) % 2147483399 := ⟨_, rfl⟩
    obtain ⟨y, hy⟩ : ∃ y : Int, y = (r * 40014 + 11) % 2147483587 + 1 := ⟨_, rfl⟩
    have e2 : (μ.set l (.lst [.int g, .int y]))[l]? = some (.lst [.int g, .int y]) := List.getElem?_set_self hl
    have st : gSet (.loc l) (.int 1) (.int y) μ = some (μ.set l (.lst [.int g, .int y])) := stk (k := 1) e (by simp)
    have i2 : gIx (.loc l) (.int 1) (μ.set l (.lst [.int g, .int y])) = some (.int y) := ixk (k := 1) e2 rfl
    refine ⟨(r * 2147483629 + y) / 8209 % m, μ.set l (.lst [.int g, .int y]), callM_ok (body_ret (δ := [some (.loc l), some (.int m), none, none]) rfl ?_) (by simp), Int.emod_nonneg _ (by omega), Int.emod_lt_of_pos _ h0, ⟨[g, y], rfl, e2⟩, .set l μ _⟩
    unfold m__law_take
    simp [eVar_run, i0, hp, i1, gMul_r, gMod_int, st, ← hr, ← hy, i2, gFdv_int, gMod_int h0]
theorem box_ok {ns : List Int} {k : Int} {μ : Mem} (h0 : 0 ≤ k) : ∃ g x : Int, callM f__law_box [.scr (ns.map D.int), .int k] μ = .ok (.loc μ.length) (μ ++ [.lst [.int g, .int x]]) := by
  suffices h : ∃ c : Int, f__law_box [.scr (ns.map D.int), .int k] μ = .ok (.loc μ.length) (μ ++ [.lst [.int (if 1000000000000000000 ≤ c then c else 0), .int ((c % 2147483587 * 69069 + 1049 * k) % 2147483587 + 1)]]) by
    obtain ⟨c, h⟩ := h
    exact ⟨_, _, callM_new h (Nat.le_refl _)⟩
  have two : ∀ a b : D, gNewL [a, b] μ = some (.loc μ.length, μ ++ [.lst [a, b]]) := fun a b => rfl
  by_cases h1 : k < ns.length
  · obtain ⟨z, hz⟩ := ix_scr (ns := ns) (μ := μ) h0 h1
    refine ⟨if z < 0 then -z else z, body_ret (δ := [some (.scr (ns.map D.int)), some (.int k), none, none]) rfl ?_⟩
    generalize hc : (if z < 0 then -z else z) = c
    unfold m__law_box
    by_cases hq : 1000000000000000000 ≤ c <;> simp [eVar_run, gMul_r, gMul_l, len_scr, h1, hz, hc, pow18, gMod_int, two, hq]
  · by_cases h2 : 0 < ns.length
    · have hk := Int.emod_nonneg k (b := (ns.length : Int)) (by omega)
      have hk2 := Int.emod_lt_of_pos k (b := (ns.length : Int)) (by omega)
      obtain ⟨z, hz⟩ := ix_scr (ns := ns) (μ := μ) hk hk2
      refine ⟨7103 * k + 1049 + (if z < 0 then -z else z) % 2147483587 * 52859, body_ret (δ := [some (.scr (ns.map D.int)), some (.int k), none, none]) rfl ?_⟩
      have hl2 : (0 : Int) < ns.length := by omega
      have hm := gMod_int (i := k) (μ := μ) hl2
      generalize hc : (if z < 0 then -z else z) = c at *
      unfold m__law_box
      by_cases hq : 1000000000000000000 ≤ 7103 * k + 1049 + c % 2147483587 * 52859 <;> simp [eVar_run, gMul_r, gMul_l, len_scr, h1, h2, hm, hz, hc, pow18, gMod_int, two, hq]
    · refine ⟨7103 * k + 1049, body_ret (δ := [some (.scr (ns.map D.int)), some (.int k), none, none]) rfl ?_⟩
      unfold m__law_box
      by_cases hq : 1000000000000000000 ≤ 7103 * k + 1049 <;> simp [eVar_run, gMul_r, gMul_l, len_scr, h1, h2, pow18, gMod_int, two, hq]
theorem box_bx {ns : List Int} {k : Int} {μ : Mem} (h0 : 0 ≤ k) : ∃ μ', callM f__law_box [.scr (ns.map D.int), .int k] μ = .ok (.loc μ.length) μ' ∧ Bxn 2 μ' μ.length ∧ Kp μ.length μ μ' := by
  obtain ⟨g, x, h⟩ := box_ok (ns := ns) (μ := μ) h0
  exact ⟨_, h, ⟨[g, x], rfl, by simp⟩, Kp.app _ μ _⟩
theorem pick_eq : f__law_pick = bodyM 2 (mPick f__law_take) := rfl
theorem pickL {μ : Mem} {l : Nat} {xs : List D} (hb : Bxn 2 μ l) (h0 : xs ≠ []) (h1 : xs.length < 1073741824) : ∃ y μ', callM f__law_pick [.loc l, .lst xs] μ = .ok y μ' ∧ y ∈ xs ∧ Bxn 2 μ' l ∧ Stay l μ μ' := pick_lst take_ok hb h0 h1
end K05

set_option Elab.async false
set_option linter.all false
set_option maxRecDepth 100000
/-! the codec's functions, for all laws that reach them -/
namespace Kw
open PySem PySem.Spec PyProof.Rows L2
abbrev oT (r : List Int) : D := .tup (r.map D.int)
abbrev oL (r : List Int) : D := .lst (r.map D.int)
def bOct : SM := (sIf (tNotM (tTru (eCallP w_is_below (aCons (eVar 2) (aCons (eC (.int 256)) aNil))))) (sRaise "BadOctets" "at" (eVar 1)) sNext)
def gOct : GM := (gSeq 2 (gsCons (gNm 1) (gsCons (gNm 2) gsNil)))
def w_need_octets : FM := bodyM 3 (sSeq (sIf (tNotM (tTru (eCallP w_is_sequence (aCons (eVar 0) aNil)))) (sRaise "BadOctets" "at" (e1 gNeg (eC (.int 1)))) sNext) (sSeq (sFor (iEnu (aCons (eVar 0) aNil)) gOct bOct) (sRet (eAs gTuple (aCons (eVar 0) aNil)))))
def w_octets_number : FM := bodyM 3 (sSeq (sAsg (eC (.int 0)) (gNm 1)) (sSeq (sFor (iSeq (eCallP w_need_octets (aCons (eVar 0) aNil))) (gNm 2) (sAsg (e2 gAdd (e2 gMul (eVar 1) (eC (.int 256))) (eVar 2)) (gNm 1))) (sRet (eVar 1))))
def cFig : TM := (tAndM (tBl (e2 gGt (eVar 0) (eC (.int 0)))) (tBl (e2 gLe (eAs gLen (aCons (eVar 1) aNil)) (eC (.int 200)))))
def bFig : SM := (sSeq (sDrop (eMtL gAppend (eVar 1) (aCons (e2 gMod (eVar 0) (eC (.int 256))) aNil))) (sAug 0 gFdv (eC (.int 256))))
def w_figures_of : FM := bodyM 2 (sSeq (sAsg (eAsM gNewL aNil) (gNm 1)) (sSeq (sWhile (fun _ _ => 202) cFig bFig) (sRet (eAs gTuple (aCons (e1 gRevS (eVar 1)) aNil)))))
def w_write_number : FM := bodyM 2 (sSeq (sIf (tNotM (tTru (eCallP w_is_number (aCons (eVar 0) aNil)))) (sRaise "Refused" "at" (eVar 0)) sNext) (sSeq (sAsg (eCallP w_figures_of (aCons (eVar 0) aNil)) (gNm 1)) (sSeq (sIf (tBl (e2 gGt (eAs gLen (aCons (eVar 1) aNil)) (eC (.int 200)))) (sRaise "Refused" "at" (eVar 0)) sNext) (sRet (e2 gAdd (eAs gTupD (aCons (eAs gLen (aCons (eVar 1) aNil)) aNil)) (eVar 1))))))
def w_octets_from : FM := bodyM 3 (sSeq (sIf (tBl (e2 gGt (e2 gAdd (eVar 1) (eVar 2)) (eAs gLen (aCons (eVar 0) aNil)))) (sRaise "Broken" "at" (eAs gLen (aCons (eVar 0) aNil))) sNext) (sRet (eSl (eVar 0) (oSome (eVar 1)) (oSome (e2 gAdd (eVar 1) (eVar 2))))))
def w_number_at : FM := bodyM 4 (sSeq (sAsg (e2 gIx (eCallP w_octets_from (aCons (eVar 0) (aCons (eVar 1) (aCons (eC (.int 1)) aNil)))) (eC (.int 0))) (gNm 2)) (sSeq (sIf (tBl (e2 gGt (eVar 2) (eC (.int 200)))) (sRaise "Broken" "at" (eVar 1)) sNext) (sSeq (sAsg (eCallP w_octets_from (aCons (eVar 0) (aCons (e2 gAdd (eVar 1) (eC (.int 1))) (aCons (eVar 2) aNil)))) (gNm 3)) (sSeq (sIf (tAndM (tBl (e2 gGt (eVar 2) (eC (.int 0)))) (tBl (e2 gEq (e2 gIx (eVar 3) (eC (.int 0))) (eC (.int 0))))) (sRaise "Broken" "at" (e2 gAdd (eVar 1) (eC (.int 1)))) sNext) (sRet (eAs gTupD (aCons (eCallP w_octets_number (aCons (eVar 3) aNil)) (aCons (e2 gAdd (e2 gAdd (eVar 1) (eC (.int 1))) (eVar 2)) aNil))))))))
def w_need_place : FM := bodyM 3 (sSeq (sAsg (eCallP w_need_octets (aCons (eVar 0) aNil)) (gNm 2)) (sSeq (sIf (tNotM (tTru (eCallP w_is_number (aCons (eVar 1) aNil)))) (sRaise "Refused" "at" (eVar 1)) sNext) (sRet (eVar 2))))
def w_read_number : FM := bodyM 2 (sRet (eCallP w_number_at (aCons (eCallP w_need_place (aCons (eVar 0) (aCons (eVar 1) aNil))) (aCons (eVar 1) aNil))))
def w_write_octets : FM := bodyM 2 (sSeq (sAsg (eCallP w_need_octets (aCons (eVar 0) aNil)) (gNm 1)) (sRet (e2 gAdd (eCallP w_write_number (aCons (eAs gLen (aCons (eVar 1) aNil)) aNil)) (eVar 1))))
def w_octets_at : FM := bodyM 4 (sSeq (sAsg (eCallP w_number_at (aCons (eVar 0) (aCons (eVar 1) aNil))) (gSeq 2 (gsCons (gNm 2) (gsCons (gNm 3) gsNil)))) (sRet (eAs gTupD (aCons (eAs gTuple (aCons (eCallP w_octets_from (aCons (eVar 0) (aCons (eVar 3) (aCons (eVar 2) aNil)))) aNil)) (aCons (e2 gAdd (eVar 3) (eVar 2)) aNil)))))
def w_read_octets : FM := bodyM 2 (sRet (eCallP w_octets_at (aCons (eCallP w_need_place (aCons (eVar 0) (aCons (eVar 1) aNil))) (aCons (eVar 1) aNil))))
def bWr : SM := (sAug 1 gAddJ (eCallP w_write_octets (aCons (eVar 2) aNil)))
def w_write_row : FM := bodyM 3 (sSeq (sIf (tNotM (tTru (eCallP w_is_sequence (aCons (eVar 0) aNil)))) (sRaise "Refused" "at" (eVar 0)) sNext) (sSeq (sAsg (eCallP w_write_number (aCons (eAs gLen (aCons (eVar 0) aNil)) aNil)) (gNm 1)) (sSeq (sFor (iSeq (eVar 0)) (gNm 2) bWr) (sRet (eVar 1)))))
def cRow : TM := (tBl (e2 gLt (eAs gLen (aCons (eVar 4) aNil)) (eVar 2)))
def bRow : SM := (sSeq (sAsg (eCallP w_octets_at (aCons (eVar 0) (aCons (eVar 3) aNil))) (gSeq 2 (gsCons (gNm 5) (gsCons (gNm 3) gsNil)))) (sDrop (eMtL gAppend (eVar 4) (aCons (eVar 5) aNil))))
def w_row_at : FM := bodyM 6 (sSeq (sAsg (eCallP w_number_at (aCons (eVar 0) (aCons (eVar 1) aNil))) (gSeq 2 (gsCons (gNm 2) (gsCons (gNm 3) gsNil)))) (sSeq (sAsg (eAsM gNewL aNil) (gNm 4)) (sSeq (sWhile (fun _ _ => 1000) cRow bRow) (sRet (eAs gTupD (aCons (eAs gTuple (aCons (eVar 4) aNil)) (aCons (eVar 3) aNil)))))))
def w_read_row : FM := bodyM 2 (sRet (eCallP w_row_at (aCons (eCallP w_need_place (aCons (eVar 0) (aCons (eVar 1) aNil))) (aCons (eVar 1) aNil))))
def w_need_end : FM := bodyM 2 (sSeq (sIf (tBl (e2 gNe (e2 gIx (eVar 1) (eC (.int 1))) (eAs gLen (aCons (eVar 0) aNil)))) (sRaise "Broken" "at" (e2 gIx (eVar 1) (eC (.int 1)))) sNext) (sRet (e2 gIx (eVar 1) (eC (.int 0)))))
def w_whole_number : FM := bodyM 1 (sRet (eCallP w_need_end (aCons (eVar 0) (aCons (eCallP w_read_number (aCons (eVar 0) (aCons (eC (.int 0)) aNil))) aNil))))
def w_whole_octets : FM := bodyM 1 (sRet (eCallP w_need_end (aCons (eVar 0) (aCons (eCallP w_read_octets (aCons (eVar 0) (aCons (eC (.int 0)) aNil))) aNil))))
def w_whole_row : FM := bodyM 1 (sRet (eCallP w_need_end (aCons (eVar 0) (aCons (eCallP w_read_row (aCons (eVar 0) (aCons (eC (.int 0)) aNil))) aNil))))
def w_number_length : FM := bodyM 1 (sRet (eAs gLen (aCons (eCallP w_write_number (aCons (eVar 0) aNil)) aNil)))
section
variable {μ : Mem} {d : D}
theorem ints_pl (zs : List Int) : ∀ x ∈ zs.map D.int, Pl x := fun x hx => by
  obtain ⟨z, _, rfl⟩ := List.mem_map.mp hx
  exact .int
theorem pl_oT (zs : List Int) : Pl (oT zs) := .tup (locBs_all (ints_pl zs))
theorem pl_oL (zs : List Int) : Pl (oL zs) := .lst (locBs_all (ints_pl zs))
theorem gTuple_D (h : isSeqD d = true) : gTuple [d] μ = some (.tup (itD d)) := by
  cases d <;> first | rfl | cases h
theorem gLen_D (h : isSeqD d = true) : gLen [d] μ = some (.int (itD d).length) := by
  cases d <;> first | rfl | cases h
def badO (i : Int) : Xn := ⟨"BadOctets", [("at", .int i)]⟩
def refu (d : D) : Xn := ⟨"Refused", [("at", d)]⟩
def brok (i : Int) : Xn := ⟨"Broken", [("at", .int i)]⟩
/-! ### need_octets -/
theorem need_noseq (hp : Pl d) (h : isSeqD d = false) : callP w_need_octets [d] μ = .exc (badO (-1)) μ := by
  refine callP_exc (μ' := []) (body_exc (δ := [some d, none, none]) (δ' := [some d, none, none]) rfl ?_) (hp.ls rfl) rfl
  have g1 : gNeg (.int 1) ([] : Mem) = some (.int (-1)) := rfl
  simp [eVar_run, hp.vo, w_seq hp, h, g1, badO]
theorem need_loop (ps : List D) (hz : ∀ p ∈ ps, Pl p ∧ belD 256 p = true) (ds : List D) : ∃ δ', (∃ a b, δ' = [some d, a, b]) ∧ loopS gOct bOct (enumD 0 (ps ++ ds)) [some d, none, none] [] = loopS gOct bOct (enumD ps.length ds) δ' [] := by
  obtain ⟨δ', μ', h1, ⟨h2, rfl⟩⟩ := loopS_enpT (e := fun d : D => d) (ds := ds) (g := gOct) (b := bOct) (R := fun _ δ μ => (∃ a b, δ = [some d, a, b]) ∧ μ = []) (all := ps) (fun pre z post δ μ hm ⟨⟨a, b, e⟩, e2⟩ => by
    subst e e2
    obtain ⟨hp, hb⟩ := hz z (by rw [← hm]; simp)
    have wb := w_bel (d := z) (μ := []) hp (m := 256)
    rw [hb] at wb
    refine ⟨[some d, some (.int (pre.length : Int)), some z], [some d, some (.int (pre.length : Int)), some z], [], [], by simp [gOct], .inl ?_, ⟨_, _, rfl⟩, rfl⟩
    unfold bOct
    simp [eVar_run, hp.vo, wb]) ps [] (δ := [some d, none, none]) (μ := []) rfl ⟨⟨none, none, rfl⟩, rfl⟩
  rw [List.map_id'] at h1
  exact ⟨δ', h2, h1⟩
theorem need_okD (hp : Pl d) (hs : isSeqD d = true) (hz : ∀ p ∈ itD d, Pl p ∧ belD 256 p = true) : callP w_need_octets [d] μ = .ok (.tup (itD d)) μ := by
  obtain ⟨δ', ⟨a, b, rfl⟩, h⟩ := need_loop (d := d) (itD d) hz []
  refine callP_ok (μ' := []) (body_ret (δ := [some d, none, none]) rfl ?_) (hp.ls rfl) (Pl.tup (locBs_all fun x hx => (hz x hx).1)).lc
  rw [seq_nx (δ1 := [some d, none, none]) (μ1 := []) (by simp [eVar_run, hp.vo, w_seq hp, hs])]
  rw [List.append_nil] at h
  have h' : loopS gOct bOct (enumD 0 (itD d)) [some d, none, none] [] = .nx [some d, a, b] [] := h
  rw [seq_nx (δ1 := [some d, a, b]) (μ1 := []) (by rw [sFor_run]; simp only [iEnu_run, aCons_run, eVar_run, List.getElem?_cons_zero, hp.vo, bind_ok, aNil_run, seqV_D hs, bindS_ok]; exact h')]
  simp [eVar_run, hp.vo, gTuple_D hs]
theorem need_badD {ps rs : List D} {x : D} (hp : Pl d) (hs : isSeqD d = true) (hi : itD d = ps ++ x :: rs) (hz : ∀ p ∈ ps, Pl p ∧ belD 256 p = true) (hx : Pl x) (hb : belD 256 x = false) : callP w_need_octets [d] μ = .exc (badO (ps.length : Int)) μ := by
  obtain ⟨δ', ⟨a, b, rfl⟩, h⟩ := need_loop (d := d) ps hz (x :: rs)
  have wb := w_bel hx (m := 256) (μ := [])
  rw [hb] at wb
  have h' : loopS gOct bOct (enumD ps.length (x :: rs)) [some d, a, b] [] = .exc (badO (ps.length : Int)) [some d, some (.int (ps.length : Int)), some x] [] := by
    rw [enumD]
    refine loopS_exc (δ1 := [some d, some (.int (ps.length : Int)), some x]) (μ1 := []) (by simp [gOct]) ?_
    unfold bOct
    simp [eVar_run, hx.vo, wb, badO]
  refine callP_exc (μ' := []) (body_exc (δ := [some d, none, none]) (δ' := [some d, some (.int (ps.length : Int)), some x]) rfl ?_) (hp.ls rfl) rfl
  rw [seq_nx (δ1 := [some d, none, none]) (μ1 := []) (by simp [eVar_run, hp.vo, w_seq hp, hs])]
  rw [sSeq_run, sFor_run]
  simp only [iEnu_run, aCons_run, eVar_run, List.getElem?_cons_zero, hp.vo, bind_ok, aNil_run, seqV_D hs, hi, bindS_ok]
  rw [h, h']
  rfl
def Oc (zs : List Int) : Prop := ∀ z ∈ zs, 0 ≤ z ∧ z < 256
theorem Oc.bel {zs : List Int} (h : Oc zs) : ∀ p ∈ zs.map D.int, Pl p ∧ belD 256 p = true := fun p hp => by
  obtain ⟨z, hz, rfl⟩ := List.mem_map.mp hp
  obtain ⟨h1, h2⟩ := h z hz
  exact ⟨.int, by simp [belD, h1, h2]⟩
theorem need_oT {zs : List Int} (h : Oc zs) : callP w_need_octets [oT zs] μ = .ok (oT zs) μ := need_okD (pl_oT zs) rfl h.bel
theorem need_oL {zs : List Int} (h : Oc zs) : callP w_need_octets [oL zs] μ = .ok (oT zs) μ := need_okD (pl_oL zs) rfl h.bel
/-! ### octets_number, figures_of -/
def valL (zs : List Int) : Int := zs.foldl (fun a z => a * 256 + z) 0
theorem valL_snoc (zs : List Int) (z : Int) : valL (zs ++ [z]) = valL zs * 256 + z := by simp [valL]
theorem octnum_ok {zs : List Int} (h : Oc zs) : callP w_octets_number [oT zs] μ = .ok (.int (valL zs)) μ := by
  obtain ⟨δ', μ', hl, ⟨o, rfl⟩, rfl⟩ := loopS_pre (e := D.int) (g := gNm 2) (b := (sAsg (e2 gAdd (e2 gMul (eVar 1) (eC (.int 256))) (eVar 2)) (gNm 1))) (R := fun pre δ μ => (∃ o, δ = [some (oT zs), some (.int (valL pre)), o]) ∧ μ = []) zs (fun pre z post δ μ hm ⟨⟨o, e⟩, e2⟩ => by
    subst e e2
    refine ⟨[some (oT zs), some (.int (valL pre)), some (.int z)], [some (oT zs), some (.int (valL (pre ++ [z]))), some (.int z)], [], [], rfl, .inl ?_, ⟨_, rfl⟩, rfl⟩
    rw [valL_snoc]
    generalize oT zs = t
    simp [eVar_run, gMul_r]) (δ := [some (oT zs), some (.int 0), none]) (μ := []) ⟨⟨none, rfl⟩, rfl⟩
  refine callP_ok (μ' := []) (body_ret (δ := [some (oT zs), none, none]) rfl ?_) ((pl_oT zs).ls rfl) rfl
  rw [seq_nx (m1 := sAsg (eC (.int 0)) (gNm 1)) (δ1 := [some (oT zs), some (.int 0), none]) (μ1 := []) rfl]
  rw [seq_nx (δ1 := [some (oT zs), some (.int (valL zs)), o]) (μ1 := []) (by
    rw [sFor_run]
    have v0 : eVar 0 [some (oT zs), some (.int 0), none] [] = .ok (oT zs) [] := rfl
    simp only [iSeq_run, eCallP_run, aCons_run, v0, bind_ok, aNil_run, need_oT h, seqV_tup, bindS_ok]
    exact hl)]
  rfl
def figF : Nat → Int → List Int
  | 0, _ => []
  | k + 1, n => if 0 < n then n % 256 :: figF k (n / 256) else []
theorem figF_len : ∀ k n, (figF k n).length ≤ k
  | 0, _ => by simp [figF]
  | k + 1, n => by
    rw [figF]
    split
    · have := figF_len k (n / 256); simp; omega
    · simp
theorem figF_oc : ∀ k n, Oc (figF k n)
  | 0, _ => fun _ h => by simp [figF] at h
  | k + 1, n => by
    rw [figF]
    split
    · intro z hz
      rcases List.mem_cons.mp hz with rfl | hz
      · exact ⟨Int.emod_nonneg _ (by omega), Int.emod_lt_of_pos _ (by omega)⟩
      · exact figF_oc k _ z hz
    · intro z hz; cases hz
theorem fig_loop : ∀ (k : Nat) (n : Int) (acc : List Int), acc.length + k = 201 → ∃ m, whileS cFig bFig (k + 1) [some (.int n), some (.loc 0)] [.lst (acc.map D.int)] = .nx [some (.int m), some (.loc 0)] [.lst ((acc ++ figF k n).map D.int)]
  | k, n, acc, h => by
    have len : gLen [.loc 0] [.lst (acc.map D.int)] = some (.int (acc.length : Int)) := by simp [gLen, seqOf, lstOf]
    unfold whileS
    by_cases hn : 0 < n
    · cases k with
      | zero =>
        have hc : cFig [some (.int n), some (.loc 0)] [.lst (acc.map D.int)] = .ok false [.lst (acc.map D.int)] := by
          unfold cFig
          have : ¬ ((acc.length : Int) ≤ 200) := by omega
          generalize acc.map D.int = ac at *
          simp [eVar_run, hn, len, this]
        refine ⟨n, ?_⟩
        rw [hc]
        simp [figF]
      | succ k =>
        have hc : cFig [some (.int n), some (.loc 0)] [.lst (acc.map D.int)] = .ok true [.lst (acc.map D.int)] := by
          unfold cFig
          have : (acc.length : Int) ≤ 200 := by omega
          generalize acc.map D.int = ac at *
          simp [eVar_run, hn, len, this]
        have ap : gAppend (.loc 0) [.int (n % 256)] [.lst (acc.map D.int)] = some (.non, [.lst (acc.map D.int ++ [.int (n % 256)])]) := append_at (l := 0) rfl (by simp; omega)
        have hb : bFig [some (.int n), some (.loc 0)] [.lst (acc.map D.int)] = .nx [some (.int (n / 256)), some (.loc 0)] [.lst ((acc ++ [n % 256]).map D.int)] := by
          unfold bFig
          have : (acc ++ [n % 256]).map D.int = acc.map D.int ++ [.int (n % 256)] := by simp
          rw [this]
          generalize acc.map D.int = ac at *
          simp [eVar_run, gMod_int, lstX, ap, sAug, gFdv_int]
        obtain ⟨m, hm⟩ := fig_loop k (n / 256) (acc ++ [n % 256]) (by simp; omega)
        refine ⟨m, ?_⟩
        rw [hc]
        simp only [bindS_ok, if_true, hb, hm]
        rw [figF, if_pos hn, List.append_assoc]
        rfl
    · have hc : cFig [some (.int n), some (.loc 0)] [.lst (acc.map D.int)] = .ok false [.lst (acc.map D.int)] := by
        unfold cFig
        generalize acc.map D.int = ac at *
        simp [eVar_run, hn]
      have hf : figF k n = [] := by
        cases k with
        | zero => rfl
        | succ k => rw [figF, if_neg hn]
      refine ⟨n, ?_⟩
      rw [hc, hf]
      simp
def figs (n : Int) : List Int := (figF 201 n).reverse
theorem figs_len (n : Int) : (figs n).length ≤ 201 := by unfold figs; rw [List.length_reverse]; exact figF_len 201 n
theorem figs_oc (n : Int) : Oc (figs n) := fun z hz => figF_oc 201 n z (by unfold figs at hz; exact List.mem_reverse.mp hz)
theorem figs_ok (n : Int) : callP w_figures_of [.int n] μ = .ok (oT (figs n)) μ := by
  obtain ⟨m, h⟩ := fig_loop 201 n [] rfl
  refine callP_ok (μ' := [.lst ((figF 201 n).map D.int)]) (body_ret (δ := [some (.int n), none]) rfl ?_) rfl (pl_oT _).lc
  have n1 : gNewL [] [] = some (.loc 0, [.lst []]) := rfl
  rw [seq_nx (δ1 := [some (.int n), some (.loc 0)]) (μ1 := [.lst []]) (by simp [n1])]
  have h' : sWhile (fun _ _ => 202) cFig bFig [some (.int n), some (.loc 0)] [.lst []] = .nx [some (.int m), some (.loc 0)] [.lst ((figF 201 n).map D.int)] := h
  rw [seq_nx h']
  have g1 : gRevS (.loc 0) [.lst ((figF 201 n).map D.int)] = some (.lst (((figs n).map D.int))) := by
    unfold figs
    rw [List.map_reverse]
    simp [gRevS, gRevL, lstOf]
  generalize (figF 201 n).map D.int = fs at *
  simp only [oT]
  generalize (figs n).map D.int = gs at *
  simp [eVar_run, g1]
/-- a number written -/
def numL (n : Int) : List Int := ((figs n).length : Int) :: figs n
theorem wnum_ok {n : Int} (h0 : 0 ≤ n) (hl : (figs n).length ≤ 200) : callP w_write_number [.int n] μ = .ok (oT (numL n)) μ := by
  refine callP_ok (μ' := []) (body_ret (δ := [some (.int n), none]) rfl ?_) rfl (pl_oT _).lc
  have nm : numD (.int n) = true := by simp [numD, h0]
  rw [seq_nx (δ1 := [some (.int n), none]) (μ1 := []) (by simp [eVar_run, w_num Pl.int, nm])]
  rw [seq_nx (δ1 := [some (.int n), some (oT (figs n))]) (μ1 := []) (by simp [eVar_run, figs_ok])]
  have ln : ∀ μ, gLen [oT (figs n)] μ = some (.int ((figs n).length : Int)) := fun μ => by simp
  have ad : ∀ μ, gAdd (.tup [.int ((figs n).length : Int)]) (oT (figs n)) μ = some (oT (numL n)) := fun μ => by
    rw [gAdd_tup (by simp; omega)]
    rfl
  have vf : ∀ μ, vOf (some (some (oT (figs n)))) μ = .ok (oT (figs n)) μ := fun _ => rfl
  have hle : ¬ ((200 : Int) < (figs n).length) := by omega
  generalize oT (numL n) = tn at *
  generalize oT (figs n) = tf at *
  simp [eVar_run, vf, ln, hle, gTupD_run, ad]
theorem wnum_big {n : Int} (h0 : 0 ≤ n) (hl : 200 < (figs n).length) : callP w_write_number [.int n] μ = .exc (refu (.int n)) μ := by
  refine callP_exc (μ' := []) (body_exc (δ := [some (.int n), none]) (δ' := [some (.int n), some (oT (figs n))]) rfl ?_) rfl rfl
  have nm : numD (.int n) = true := by simp [numD, h0]
  rw [seq_nx (δ1 := [some (.int n), none]) (μ1 := []) (by simp [eVar_run, w_num Pl.int, nm])]
  rw [seq_nx (δ1 := [some (.int n), some (oT (figs n))]) (μ1 := []) (by simp [eVar_run, figs_ok])]
  have ln : ∀ μ, gLen [oT (figs n)] μ = some (.int ((figs n).length : Int)) := fun μ => by simp
  have vf : ∀ μ, vOf (some (some (oT (figs n)))) μ = .ok (oT (figs n)) μ := fun _ => rfl
  have hle : (200 : Int) < (figs n).length := by omega
  generalize oT (figs n) = tf at *
  simp [eVar_run, vf, ln, hle, refu]
theorem wnum_bad (hp : Pl d) (h : numD d = false) : callP w_write_number [d] μ = .exc (refu d) μ := by
  refine callP_exc (μ' := []) (body_exc (δ := [some d, none]) (δ' := [some d, none]) rfl ?_) (hp.ls rfl) (by simpa [refu] using hp.ls rfl)
  simp [eVar_run, hp.vo, w_num hp, h, refu]
/-! ### reading -/
theorem cut_at {zs : List Int} {a m : Int} (h0 : 0 ≤ a) (h1 : 0 ≤ m) (h2 : a + m ≤ zs.length) : Kw.cutD (zs.map D.int) (some a) (some (a + m)) = ((zs.drop a.toNat).take m.toNat).map D.int := by
  unfold Kw.cutD HT.sIx
  have e1 : ¬ a < 0 := by omega
  have e2 : ¬ a + m < 0 := by omega
  simp only [List.length_map, e1, e2, if_false]
  rw [← List.map_drop, ← List.map_take]
  have e3 : min a.toNat zs.length = a.toNat := by omega
  have e4 : min (a + m).toNat zs.length - a.toNat = m.toNat := by omega
  rw [e3, e4]
theorem from_ok {zs : List Int} {a m : Int} (h0 : 0 ≤ a) (h1 : 0 ≤ m) (h2 : a + m ≤ zs.length) : callP w_octets_from [oT zs, .int a, .int m] μ = .ok (oT ((zs.drop a.toNat).take m.toNat)) μ := by
  refine callP_ok (μ' := []) (body_ret (δ := [some (oT zs), some (.int a), some (.int m)]) rfl ?_) ((pl_oT zs).ls rfl) (pl_oT _).lc
  have ln : ∀ μ, gLen [oT zs] μ = some (.int (zs.length : Int)) := fun μ => by simp
  have c : ¬ (zs.length : Int) < a + m := by omega
  have sl : ∀ μ, gSl (oT zs) (some a) (some (a + m)) μ = some (oT ((zs.drop a.toNat).take m.toNat)) := fun μ => by
    show some (D.tup (Kw.cutD (zs.map D.int) (some a) (some (a + m)))) = _
    rw [cut_at h0 h1 h2]
  have vf : ∀ μ, vOf (some (some (oT zs))) μ = .ok (oT zs) μ := fun _ => rfl
  generalize oT ((zs.drop a.toNat).take m.toNat) = tn at *
  generalize oT zs = tf at *
  rw [seq_nx (δ1 := [some tf, some (.int a), some (.int m)]) (μ1 := []) (by simp [eVar_run, vf, ln, c])]
  simp [eSl, oSome, eVar_run, vf, sl]
theorem from_bad {zs : List Int} {a m : Int} (h : (zs.length : Int) < a + m) : callP w_octets_from [oT zs, .int a, .int m] μ = .exc (brok zs.length) μ := by
  refine callP_exc (μ' := []) (body_exc (δ := [some (oT zs), some (.int a), some (.int m)]) (δ' := [some (oT zs), some (.int a), some (.int m)]) rfl ?_) ((pl_oT zs).ls rfl) rfl
  have ln : ∀ μ, gLen [oT zs] μ = some (.int (zs.length : Int)) := fun μ => by simp
  have vf : ∀ μ, vOf (some (some (oT zs))) μ = .ok (oT zs) μ := fun _ => rfl
  generalize oT zs = tf at *
  simp [eVar_run, vf, ln, h, brok]
/-- a number at a -/
def numAt (zs : List Int) (a : Nat) : Except Nat (Int × Nat) := match zs[a]? with
  | none => .error zs.length
  | some m => if 200 < m then .error a else if zs.length < a + 1 + m.toNat then .error zs.length else if 0 < m ∧ zs[a + 1]? = some 0 then .error (a + 1) else .ok (valL ((zs.drop (a + 1)).take m.toNat), a + 1 + m.toNat)
def toE {α : Type} (f : α → D) (μ : Mem) : Except Nat (α × Nat) → Out D
  | .error e => .exc (brok e) μ
  | .ok (v, b) => .ok (.tup [f v, .int (b : Int)]) μ
theorem oc_sub {zs : List Int} (h : Oc zs) (a m : Nat) : Oc ((zs.drop a).take m) := fun z hz => h z (List.mem_of_mem_drop (List.mem_of_mem_take hz))
theorem numAt_run {zs : List Int} (h : Oc zs) (a : Nat) : callP w_number_at [oT zs, .int (a : Int)] μ = toE D.int μ (numAt zs a) := by
  have ls : locBs false 0 [oT zs, .int (a : Int)] = true := (pl_oT zs).ls rfl
  have vf : ∀ μ, vOf (some (some (oT zs))) μ = .ok (oT zs) μ := fun _ => rfl
  unfold numAt
  cases hz : zs[a]? with
  | none =>
    have hl : zs.length ≤ a := List.getElem?_eq_none_iff.mp hz
    have f1 := from_bad (μ := []) (zs := zs) (a := (a : Int)) (m := 1) (by omega)
    refine callP_exc (μ' := []) (body_exc (δ := [some (oT zs), some (.int (a : Int)), none, none]) (δ' := [some (oT zs), some (.int (a : Int)), none, none]) rfl ?_) ls rfl
    generalize oT zs = tf at *
    simp [eVar_run, vf, f1]
  | some m =>
    have hl : a < zs.length := (List.getElem?_eq_some_iff.mp hz).1
    have hm := h m (List.mem_of_getElem? hz)
    have f1 := from_ok (μ := []) (zs := zs) (a := (a : Int)) (m := 1) (by omega) (by omega) (by omega)
    have one : (zs.drop (a : Int).toNat).take (1 : Int).toNat = [m] := by
      rw [Int.toNat_natCast]
      show (zs.drop a).take 1 = [m]
      rw [List.drop_eq_getElem_cons hl, List.take_succ_cons, List.take_zero, (List.getElem?_eq_some_iff.mp hz).2]
    rw [one] at f1
    have ix : ∀ μ, gIx (oT [m]) (.int 0) μ = some (.int m) := fun μ => by
      have := ix_nat (xs := [D.int m]) (x := oT [m]) (μ := μ) (k := 0) rfl
      simpa using this
    have s1 : (sAsg (e2 gIx (eCallP w_octets_from (aCons (eVar 0) (aCons (eVar 1) (aCons (eC (.int 1)) aNil)))) (eC (.int 0))) (gNm 2)) [some (oT zs), some (.int (a : Int)), none, none] [] = .nx [some (oT zs), some (.int (a : Int)), some (.int m), none] [] := by
      generalize oT zs = tf at *
      generalize oT [m] = tm at *
      simp [eVar_run, vf, f1, ix]
    simp only
    by_cases c1 : 200 < m
    · rw [if_pos c1]
      refine callP_exc (μ' := []) (body_exc (δ := [some (oT zs), some (.int (a : Int)), none, none]) (δ' := [some (oT zs), some (.int (a : Int)), some (.int m), none]) rfl ?_) ls rfl
      rw [seq_nx s1]
      generalize oT zs = tf at *
      simp [eVar_run, c1, brok]
    · rw [if_neg c1]
      have s2 : ∀ r : SM, (sSeq (sIf (tBl (e2 gGt (eVar 2) (eC (.int 200)))) (sRaise "Broken" "at" (eVar 1)) sNext) r) [some (oT zs), some (.int (a : Int)), some (.int m), none] [] = r [some (oT zs), some (.int (a : Int)), some (.int m), none] [] := fun r => by
        generalize oT zs = tf at *
        simp [eVar_run, c1]
      by_cases c2 : zs.length < a + 1 + m.toNat
      · rw [if_pos c2]
        have f2 := from_bad (μ := []) (zs := zs) (a := (a : Int) + 1) (m := m) (by omega)
        refine callP_exc (μ' := []) (body_exc (δ := [some (oT zs), some (.int (a : Int)), none, none]) (δ' := [some (oT zs), some (.int (a : Int)), some (.int m), none]) rfl ?_) ls rfl
        rw [seq_nx s1, s2]
        generalize oT zs = tf at *
        simp [eVar_run, vf, f2]
      · rw [if_neg c2]
        have f2 := from_ok (μ := []) (zs := zs) (a := (a : Int) + 1) (m := m) (by omega) hm.1 (by omega)
        have e1 : ((a : Int) + 1).toNat = a + 1 := by omega
        rw [e1] at f2
        obtain ⟨fs, hfs⟩ : ∃ fs, fs = (zs.drop (a + 1)).take m.toNat := ⟨_, rfl⟩
        rw [← hfs] at f2 ⊢
        have s3 : (sAsg (eCallP w_octets_from (aCons (eVar 0) (aCons (e2 gAdd (eVar 1) (eC (.int 1))) (aCons (eVar 2) aNil)))) (gNm 3)) [some (oT zs), some (.int (a : Int)), some (.int m), none] [] = .nx [some (oT zs), some (.int (a : Int)), some (.int m), some (oT fs)] [] := by
          generalize oT zs = tf at *
          generalize oT fs = tm at *
          simp [eVar_run, vf, f2]
        have vs : ∀ μ, vOf (some (some (oT fs))) μ = .ok (oT fs) μ := fun _ => rfl
        have on := octnum_ok (μ := []) (zs := fs) (by rw [hfs]; exact oc_sub h _ _)
        by_cases c3 : 0 < m
        · have hlt : a + 1 < zs.length := by omega
          have hf0 : fs[0]? = zs[a + 1]? := by
            rw [hfs, List.getElem?_take, List.getElem?_drop]
            rw [if_pos (by omega)]
          have i0 : ∀ μ, gIx (oT fs) (.int 0) μ = some (.int zs[a + 1]) := fun μ => by
            have := ix_nat (xs := fs.map D.int) (x := oT fs) (μ := μ) (k := 0) rfl
            rw [List.getElem?_map, hf0, List.getElem?_eq_getElem hlt] at this
            exact this
          by_cases c4 : zs[a + 1] = 0
          · rw [if_pos ⟨c3, by rw [List.getElem?_eq_getElem hlt, c4]⟩]
            refine callP_exc (μ' := []) (body_exc (δ := [some (oT zs), some (.int (a : Int)), none, none]) (δ' := [some (oT zs), some (.int (a : Int)), some (.int m), some (oT fs)]) rfl ?_) ls rfl
            rw [seq_nx s1, s2, seq_nx s3]
            generalize oT zs = tf at *
            generalize oT fs = tm at *
            simp [eVar_run, vf, vs, c3, i0, c4, brok]
          · rw [if_neg (fun z => c4 (by rw [List.getElem?_eq_getElem hlt] at z; exact Option.some.inj z.2))]
            refine callP_ok (μ' := []) (body_ret (δ := [some (oT zs), some (.int (a : Int)), none, none]) rfl ?_) ls rfl
            have hc4 : (zs[a + 1] == 0) = false := by simpa using c4
            rw [seq_nx s1, s2, seq_nx s3]
            have e2 : (a : Int) + 1 + m = ((a + 1 + m.toNat : Nat) : Int) := by omega
            generalize oT zs = tf at *
            generalize oT fs = tm at *
            simp [eVar_run, vf, vs, c3, i0, hc4, c4, on, gTupD_run]
            omega
        · rw [if_neg (fun z => c3 z.1)]
          refine callP_ok (μ' := []) (body_ret (δ := [some (oT zs), some (.int (a : Int)), none, none]) rfl ?_) ls rfl
          rw [seq_nx s1, s2, seq_nx s3]
          generalize oT zs = tf at *
          generalize oT fs = tm at *
          simp [eVar_run, vf, vs, c3, on, gTupD_run]
          omega
/-! ### where to read -/
/-- octets handed: a tuple or a list of such -/
inductive Oh (zs : List Int) : D → Prop
  | t : Oh zs (oT zs)
  | l : Oh zs (oL zs)
theorem Oh.pl {zs : List Int} (h : Oh zs d) : Pl d := by
  cases h with
  | t => exact pl_oT zs
  | l => exact pl_oL zs
theorem Oh.need {zs : List Int} (h : Oh zs d) (hz : Oc zs) : callP w_need_octets [d] μ = .ok (oT zs) μ := by
  cases h with
  | t => exact need_oT hz
  | l => exact need_oL hz
theorem Oh.len {zs : List Int} (h : Oh zs d) : gLen [d] μ = some (.int (zs.length : Int)) := by
  cases h <;> simp
theorem place_ok {zs : List Int} {a : Int} (h : Oh zs d) (hz : Oc zs) (h0 : 0 ≤ a) : callP w_need_place [d, .int a] μ = .ok (oT zs) μ := by
  refine callP_ok (μ' := []) (body_ret (δ := [some d, some (.int a), none]) rfl ?_) (h.pl.ls rfl) (pl_oT _).lc
  have nd := h.need (μ := []) hz
  have vd := h.pl.vo
  have nm : numD (.int a) = true := by simp [numD, h0]
  have vf : ∀ μ, vOf (some (some (oT zs))) μ = .ok (oT zs) μ := fun _ => rfl
  generalize oT zs = tf at *
  simp [eVar_run, vd, nd, w_num Pl.int, nm, vf]
theorem place_at {zs : List Int} {x : D} (h : Oh zs d) (hz : Oc zs) (hx : Pl x) (hn : numD x = false) : callP w_need_place [d, x] μ = .exc (refu x) μ := by
  have nd := h.need (μ := []) hz
  have vd := h.pl.vo
  have vf : ∀ μ, vOf (some (some (oT zs))) μ = .ok (oT zs) μ := fun _ => rfl
  refine callP_exc (μ' := []) (body_exc (δ := [some d, some x, none]) (δ' := [some d, some x, some (oT zs)]) rfl ?_) (h.pl.ls (hx.ls rfl)) (by simpa [refu] using hx.ls rfl)
  generalize oT zs = tf at *
  simp [eVar_run, vd, nd, hx.vo, w_num hx, hn, vf, refu]
theorem place_exc {y : D} {x : Xn} (hd : Pl d) (hy : Pl y) (h : ∀ μ, callP w_need_octets [d] μ = .exc x μ) (hx : locBs false 0 (x.fs.map (·.2)) = true) : callP w_need_place [d, y] μ = .exc x μ := by
  refine callP_exc (μ' := []) (body_exc (δ := [some d, some y, none]) (δ' := [some d, some y, none]) rfl ?_) (hd.ls (hy.ls rfl)) hx
  simp [eVar_run, hd.vo, h]
/-! ### read_number, octets_at, row_at -/
theorem toE_loc {α : Type} {f : α → D} {r : Except Nat (α × Nat)} (hf : ∀ a, locB false 0 (f a) = true) {m : FM} {ds : List D} (hd : locBs false 0 ds = true) (h : m ds [] = toE f [] r) : callP m ds μ = toE f μ r := by
  cases r with
  | error e => exact callP_exc h hd rfl
  | ok p =>
    obtain ⟨v, b⟩ := p
    exact callP_ok h hd (by rw [locB, locBs, hf]; rfl)
theorem body_toE {α : Type} {f : α → D} {r : Except Nat (α × Nat)} {N : Nat} {m : SM} {ds : List D} {δ : Sv} (hδ : ds.map some ++ List.replicate (N - ds.length) none = δ) (h : ∃ δ', m δ [] = (toE f [] r).bindS δ' fun d μ => .ret d μ) : bodyM N m ds [] = toE f [] r := by
  obtain ⟨δ', h⟩ := h
  unfold bodyM
  rw [hδ, h]
  cases r <;> rfl
theorem toE_bind {α : Type} {f : α → D} {r : Except Nat (α × Nat)} {δ : Sv} {k : D → Mem → SOut} : (toE f μ r).bindS δ k = match r with
    | .error e => .exc (brok e) δ μ
    | .ok (v, b) => k (.tup [f v, .int (b : Int)]) μ := by cases r <;> rfl
theorem rnum_run {zs : List Int} (h : Oh zs d) (hz : Oc zs) (a : Nat) : callP w_read_number [d, .int (a : Int)] μ = toE D.int μ (numAt zs a) := by
  refine toE_loc (fun _ => rfl) (h.pl.ls rfl) (body_toE (δ := [some d, some (.int (a : Int))]) rfl ?_)
  have pl := place_ok (μ := []) h hz (a := (a : Int)) (by omega)
  have nr := numAt_run (μ := []) hz a
  generalize oT zs = tf at *
  exact ⟨[some d, some (.int (a : Int))], by simp [eVar_run, h.pl.vo, pl, nr]⟩
theorem rnum_exc {y : D} {x : Xn} (hd : Pl d) (hy : Pl y) (h : ∀ μ, callP w_need_place [d, y] μ = .exc x μ) (hx : locBs false 0 (x.fs.map (·.2)) = true) : callP w_read_number [d, y] μ = .exc x μ := by
  refine callP_exc (μ' := []) (body_exc (δ := [some d, some y]) (δ' := [some d, some y]) rfl ?_) (hd.ls (hy.ls rfl)) hx
  simp [eVar_run, hd.vo, hy.vo, h]
def octAt (zs : List Int) (a : Nat) : Except Nat (List Int × Nat) := match numAt zs a with
  | .error e => .error e
  | .ok (n, b) => if (zs.length : Int) < b + n then .error zs.length else .ok ((zs.drop b).take n.toNat, b + n.toNat)
theorem valL_nn {zs : List Int} (h : Oc zs) : 0 ≤ valL zs := by
  have key : ∀ (zs : List Int) (a : Int), 0 ≤ a → (∀ z ∈ zs, 0 ≤ z ∧ z < 256) → 0 ≤ zs.foldl (fun a z => a * 256 + z) a := fun zs => by
    induction zs with
    | nil => intro a h _; exact h
    | cons z zs ih =>
      intro a ha hz
      refine ih _ ?_ fun y hy => hz y (.tail _ hy)
      have := (hz z (.head _)).1
      show 0 ≤ a * 256 + z
      omega
  exact key zs 0 (Int.le_refl _) h
theorem numAt_nn {zs : List Int} (h : Oc zs) {a : Nat} {n : Int} {b : Nat} (e : numAt zs a = .ok (n, b)) : 0 ≤ n ∧ a < b ∧ b ≤ zs.length := by
  unfold numAt at e
  split at e
  · cases e
  · next m hm =>
    split at e
    · cases e
    · split at e
      · cases e
      · split at e
        · cases e
        · cases e
          exact ⟨valL_nn (oc_sub h _ _), by omega, by omega⟩
theorem octAt_run {zs : List Int} (h : Oc zs) (a : Nat) : callP w_octets_at [oT zs, .int (a : Int)] μ = toE oT μ (octAt zs a) := by
  refine toE_loc (fun zs => (pl_oT zs).lc) ((pl_oT zs).ls rfl) (body_toE (δ := [some (oT zs), some (.int (a : Int)), none, none]) rfl ?_)
  have nr := numAt_run (μ := []) h a
  have vf : ∀ μ, vOf (some (some (oT zs))) μ = .ok (oT zs) μ := fun _ => rfl
  unfold octAt
  cases hn : numAt zs a with
  | error e =>
    rw [hn] at nr
    generalize oT zs = tf at *
    exact ⟨[some tf, some (.int (a : Int)), none, none], by simp [eVar_run, vf, nr, toE]⟩
  | ok p =>
    obtain ⟨n, b⟩ := p
    obtain ⟨n0, _, bl⟩ := numAt_nn h hn
    rw [hn] at nr
    simp only [toE] at nr
    have s1 : (sAsg (eCallP w_number_at (aCons (eVar 0) (aCons (eVar 1) aNil))) (gSeq 2 (gsCons (gNm 2) (gsCons (gNm 3) gsNil)))) [some (oT zs), some (.int (a : Int)), none, none] [] = .nx [some (oT zs), some (.int (a : Int)), some (.int n), some (.int (b : Int))] [] := by
      generalize oT zs = tf at *
      simp [eVar_run, vf, nr]
    refine ⟨[some (oT zs), some (.int (a : Int)), some (.int n), some (.int (b : Int))], ?_⟩
    rw [seq_nx s1]
    simp only
    by_cases c : (zs.length : Int) < b + n
    · rw [if_pos c]
      have f := from_bad (μ := []) (zs := zs) (a := (b : Int)) (m := n) c
      generalize oT zs = tf at *
      simp [eVar_run, vf, f, toE]
    · rw [if_neg c]
      have f := from_ok (μ := []) (zs := zs) (a := (b : Int)) (m := n) (by omega) n0 (by omega)
      rw [Int.toNat_natCast] at f
      have gt : ∀ μ, gTuple [oT ((zs.drop b).take n.toNat)] μ = some (oT ((zs.drop b).take n.toNat)) := fun _ => rfl
      simp only [toE]
      generalize oT ((zs.drop b).take n.toNat) = tg at *
      generalize oT zs = tf at *
      simp [eVar_run, vf, f, toE, gt, gTupD_run]
      omega
theorem roct_run {zs : List Int} (h : Oh zs d) (hz : Oc zs) (a : Nat) : callP w_read_octets [d, .int (a : Int)] μ = toE oT μ (octAt zs a) := by
  refine toE_loc (fun zs => (pl_oT zs).lc) (h.pl.ls rfl) (body_toE (δ := [some d, some (.int (a : Int))]) rfl ?_)
  have pl := place_ok (μ := []) h hz (a := (a : Int)) (by omega)
  have nr := octAt_run (μ := []) hz a
  generalize oT zs = tf at *
  exact ⟨[some d, some (.int (a : Int))], by simp [eVar_run, h.pl.vo, pl, nr]⟩
theorem roct_exc {y : D} {x : Xn} (hd : Pl d) (hy : Pl y) (h : ∀ μ, callP w_need_place [d, y] μ = .exc x μ) (hx : locBs false 0 (x.fs.map (·.2)) = true) : callP w_read_octets [d, y] μ = .exc x μ := by
  refine callP_exc (μ' := []) (body_exc (δ := [some d, some y]) (δ' := [some d, some y]) rfl ?_) (hd.ls (hy.ls rfl)) hx
  simp [eVar_run, hd.vo, hy.vo, h]
def rowF : Nat → List Int → Nat → List (List Int) → Except Nat (List (List Int) × Nat)
  | 0, _, b, acc => .ok (acc, b)
  | n + 1, zs, b, acc => match octAt zs b with
    | .error e => .error e
    | .ok (r, b') => rowF n zs b' (acc ++ [r])
def rowAt (zs : List Int) (a : Nat) : Except Nat (List (List Int) × Nat) := match numAt zs a with
  | .error e => .error e
  | .ok (n, b) => rowF n.toNat zs b []
theorem octAt_nn {zs : List Int} (h : Oc zs) {a : Nat} {r : List Int} {b : Nat} (e : octAt zs a = .ok (r, b)) : a < b ∧ b ≤ zs.length ∧ Oc r ∧ r.length ≤ zs.length := by
  unfold octAt at e
  split at e
  · cases e
  · next n b' hn =>
    obtain ⟨n0, h1, h2⟩ := numAt_nn h hn
    split at e
    · cases e
    · cases e
      exact ⟨by omega, by omega, oc_sub h _ _, by simp; omega⟩
theorem octAt_end {zs : List Int} {a : Nat} (h : zs.length ≤ a) : octAt zs a = .error zs.length := by
  unfold octAt numAt
  rw [List.getElem?_eq_none_iff.mpr h]
/-- what is read no more depends on how many are left -/
theorem rowF_far {zs : List Int} (h : Oc zs) : ∀ (m : Nat) (n n' b : Nat) (acc : List (List Int)), zs.length - b ≤ m → m < n → m < n' → rowF n zs b acc = rowF n' zs b acc
  | m, 0, _, _, _, _, h1, _ => by omega
  | m, _ + 1, 0, _, _, _, _, h2 => by omega
  | m, n + 1, n' + 1, b, acc, h0, h1, h2 => by
    rw [rowF, rowF]
    cases e : octAt zs b with
    | error e => rfl
    | ok p =>
      obtain ⟨r, b'⟩ := p
      obtain ⟨g1, g2, _⟩ := octAt_nn h e
      cases m with
      | zero => rw [octAt_end (by omega)] at e; cases e
      | succ m => exact rowF_far h m n n' b' _ (by omega) (by omega) (by omega)
theorem row_loop {zs : List Int} (h : Oc zs) {o1 : D} (N : Int) : ∀ (f n b : Nat) (acc : List (List Int)) (o5 : Option D), zs.length - b < f → (acc.length : Int) + n = N → acc.length + (zs.length - b) ≤ 100000 →
    (∀ e, rowF n zs b acc = .error e → ∃ δ' μ', whileS cRow bRow f [some (oT zs), some o1, some (.int N), some (.int (b : Int)), some (.loc 0), o5] [.lst (acc.map oT)] = .exc (brok e) δ' μ') ∧
    (∀ rs b', rowF n zs b acc = .ok (rs, b') → ∃ o5', whileS cRow bRow f [some (oT zs), some o1, some (.int N), some (.int (b : Int)), some (.loc 0), o5] [.lst (acc.map oT)] = .nx [some (oT zs), some o1, some (.int N), some (.int (b' : Int)), some (.loc 0), o5'] [.lst (rs.map oT)])
  | 0, _, _, _, _, hf, _, _ => by omega
  | f + 1, 0, b, acc, o5, hf, hN, hs => by
    have len : gLen [.loc 0] [.lst (acc.map oT)] = some (.int (acc.length : Int)) := by simp [gLen, seqOf, lstOf]
    have c : ¬ (acc.length : Int) < N := by omega
    refine ⟨fun e he => by simp [rowF] at he, fun rs b' he => ?_⟩
    simp only [rowF, Except.ok.injEq, Prod.mk.injEq] at he
    obtain ⟨rfl, rfl⟩ := he
    refine ⟨o5, ?_⟩
    unfold whileS cRow
    generalize oT zs = tz at *
    generalize acc.map oT = as at *
    simp [eVar_run, len, c]
  | f + 1, n + 1, b, acc, o5, hf, hN, hs => by
    have len : gLen [.loc 0] [.lst (acc.map oT)] = some (.int (acc.length : Int)) := by simp [gLen, seqOf, lstOf]
    have c : (acc.length : Int) < N := by omega
    have or_ := octAt_run (μ := [.lst (acc.map oT)]) h b
    have vf : ∀ μ, vOf (some (some (oT zs))) μ = .ok (oT zs) μ := fun _ => rfl
    have hc : cRow [some (oT zs), some o1, some (.int N), some (.int (b : Int)), some (.loc 0), o5] [.lst (acc.map oT)] = .ok true [.lst (acc.map oT)] := by
      unfold cRow
      generalize oT zs = tz at *
      generalize acc.map oT = as at *
      simp [eVar_run, len, c]
    rw [rowF]
    cases e : octAt zs b with
    | error e1 =>
      rw [e] at or_
      simp only [toE] at or_
      refine ⟨fun e2 he => ?_, fun rs b' he => by cases he⟩
      cases he
      refine ⟨[some (oT zs), some o1, some (.int N), some (.int (b : Int)), some (.loc 0), o5], [.lst (acc.map oT)], ?_⟩
      have hb : bRow [some (oT zs), some o1, some (.int N), some (.int (b : Int)), some (.loc 0), o5] [.lst (acc.map oT)] = .exc (brok e1) [some (oT zs), some o1, some (.int N), some (.int (b : Int)), some (.loc 0), o5] [.lst (acc.map oT)] := by
        unfold bRow
        generalize oT zs = tz at *
        generalize acc.map oT = as at *
        simp [eVar_run, vf, or_]
      unfold whileS
      rw [hc]
      simp only [bindS_ok, if_true, hb]
    | ok p =>
      obtain ⟨r, b'⟩ := p
      rw [e] at or_
      simp only [toE] at or_
      obtain ⟨g1, g2, _, _⟩ := octAt_nn h e
      have ap : gAppend (.loc 0) [oT r] [.lst (acc.map oT)] = some (.non, [.lst (acc.map oT ++ [oT r])]) := append_at (l := 0) rfl (by simp; omega)
      have hb : bRow [some (oT zs), some o1, some (.int N), some (.int (b : Int)), some (.loc 0), o5] [.lst (acc.map oT)] = .nx [some (oT zs), some o1, some (.int N), some (.int (b' : Int)), some (.loc 0), some (oT r)] [.lst ((acc ++ [r]).map oT)] := by
        unfold bRow
        have e9 : (acc ++ [r]).map oT = acc.map oT ++ [oT r] := by simp
        have vr : ∀ μ, vOf (some (some (oT r))) μ = .ok (oT r) μ := fun _ => rfl
        rw [e9]
        generalize oT zs = tz at *
        generalize oT r = tr at *
        generalize acc.map oT = as at *
        simp [eVar_run, vf, vr, or_, lstX, ap]
      obtain ⟨i1, i2⟩ := row_loop h (o1 := o1) N f n b' (acc ++ [r]) (some (oT r)) (by omega) (by simp; omega) (by simp; omega)
      simp only
      refine ⟨fun e2 he => ?_, fun rs b2 he => ?_⟩
      · obtain ⟨δ', μ', q⟩ := i1 e2 he
        refine ⟨δ', μ', ?_⟩
        unfold whileS
        rw [hc]
        simp only [bindS_ok, if_true, hb, q]
      · obtain ⟨o5', q⟩ := i2 rs b2 he
        refine ⟨o5', ?_⟩
        unfold whileS
        rw [hc]
        simp only [bindS_ok, if_true, hb, q]
abbrev oR (rs : List (List Int)) : D := .tup (rs.map oT)
theorem oR_lc (rs : List (List Int)) : locB false 0 (oR rs) = true := by
  rw [locB]
  exact loc_map _ fun r _ => (pl_oT r).lc
theorem toE_locM {α : Type} {f : α → D} {r : Except Nat (α × Nat)} (hf : ∀ a, locB false 0 (f a) = true) {m : FM} {ds : List D} (hd : locBs false 0 ds = true) (h1 : ∀ e, r = .error e → ∃ μ', m ds [] = .exc (brok e) μ') (h2 : ∀ v b, r = .ok (v, b) → ∃ μ', m ds [] = .ok (.tup [f v, .int (b : Int)]) μ') : callP m ds μ = toE f μ r := by
  cases r with
  | error e =>
    obtain ⟨μ', h⟩ := h1 e rfl
    exact callP_exc h hd rfl
  | ok p =>
    obtain ⟨v, b⟩ := p
    obtain ⟨μ', h⟩ := h2 v b rfl
    exact callP_ok h hd (by rw [locB, locBs, hf]; rfl)
theorem rowAt_run {zs : List Int} (h : Oc zs) (hl : zs.length ≤ 900) (a : Nat) : callP w_row_at [oT zs, .int (a : Int)] μ = toE oR μ (rowAt zs a) := by
  have nr := numAt_run (μ := []) h a
  have vf : ∀ μ, vOf (some (some (oT zs))) μ = .ok (oT zs) μ := fun _ => rfl
  unfold rowAt
  cases hn : numAt zs a with
  | error e =>
    rw [hn] at nr
    simp only [toE] at nr
    refine toE_locM oR_lc ((pl_oT zs).ls rfl) (fun e2 he => ⟨[], body_exc (δ := [some (oT zs), some (.int (a : Int)), none, none, none, none]) (δ' := [some (oT zs), some (.int (a : Int)), none, none, none, none]) rfl ?_⟩) (fun v b he => by cases he)
    cases he
    generalize oT zs = tf at *
    simp [eVar_run, vf, nr]
  | ok p =>
    obtain ⟨n, b⟩ := p
    obtain ⟨n0, _, bl⟩ := numAt_nn h hn
    rw [hn] at nr
    simp only [toE] at nr
    have s1 : (sAsg (eCallP w_number_at (aCons (eVar 0) (aCons (eVar 1) aNil))) (gSeq 2 (gsCons (gNm 2) (gsCons (gNm 3) gsNil)))) [some (oT zs), some (.int (a : Int)), none, none, none, none] [] = .nx [some (oT zs), some (.int (a : Int)), some (.int n), some (.int (b : Int)), none, none] [] := by
      generalize oT zs = tf at *
      simp [eVar_run, vf, nr]
    have s2 : (sAsg (eAsM gNewL aNil) (gNm 4)) [some (oT zs), some (.int (a : Int)), some (.int n), some (.int (b : Int)), none, none] [] = .nx [some (oT zs), some (.int (a : Int)), some (.int n), some (.int (b : Int)), some (.loc 0), none] [.lst []] := by
      have n1 : gNewL [] [] = some (.loc 0, [.lst []]) := rfl
      generalize oT zs = tf at *
      simp [n1]
    obtain ⟨i1, i2⟩ := row_loop h (o1 := .int (a : Int)) n 1000 n.toNat b [] none (by omega) (by simp; omega) (by simp; omega)
    refine toE_locM oR_lc ((pl_oT zs).ls rfl) (fun e2 he => ?_) (fun v b' he => ?_)
    · obtain ⟨δ', μ', q⟩ := i1 e2 he
      have q' : sWhile (fun _ _ => 1000) cRow bRow [some (oT zs), some (.int (a : Int)), some (.int n), some (.int (b : Int)), some (.loc 0), none] [.lst []] = .exc (brok e2) δ' μ' := q
      refine ⟨μ', body_exc (δ := [some (oT zs), some (.int (a : Int)), none, none, none, none]) (δ' := δ') rfl ?_⟩
      rw [seq_nx s1, seq_nx s2, sSeq_run, q']
      rfl
    · obtain ⟨o5', q⟩ := i2 v b' he
      have q' : sWhile (fun _ _ => 1000) cRow bRow [some (oT zs), some (.int (a : Int)), some (.int n), some (.int (b : Int)), some (.loc 0), none] [.lst []] = .nx [some (oT zs), some (.int (a : Int)), some (.int n), some (.int (b' : Int)), some (.loc 0), o5'] [.lst (v.map oT)] := q
      refine ⟨[.lst (v.map oT)], body_ret (δ := [some (oT zs), some (.int (a : Int)), none, none, none, none]) rfl ?_⟩
      rw [seq_nx s1, seq_nx s2, seq_nx q']
      simp only [oR]
      generalize v.map oT = vs at *
      generalize oT zs = tf at *
      simp [eVar_run, gTuple, lstOf, gTupD_run]
theorem rrow_run {zs : List Int} (h : Oh zs d) (hz : Oc zs) (hl : zs.length ≤ 900) (a : Nat) : callP w_read_row [d, .int (a : Int)] μ = toE oR μ (rowAt zs a) := by
  refine toE_loc oR_lc (h.pl.ls rfl) (body_toE (δ := [some d, some (.int (a : Int))]) rfl ?_)
  have pl := place_ok (μ := []) h hz (a := (a : Int)) (by omega)
  have nr := rowAt_run (μ := []) hz hl a
  generalize oT zs = tf at *
  exact ⟨[some d, some (.int (a : Int))], by simp [eVar_run, h.pl.vo, pl, nr]⟩
theorem rrow_exc {y : D} {x : Xn} (hd : Pl d) (hy : Pl y) (h : ∀ μ, callP w_need_place [d, y] μ = .exc x μ) (hx : locBs false 0 (x.fs.map (·.2)) = true) : callP w_read_row [d, y] μ = .exc x μ := by
  refine callP_exc (μ' := []) (body_exc (δ := [some d, some y]) (δ' := [some d, some y]) rfl ?_) (hd.ls (hy.ls rfl)) hx
  simp [eVar_run, hd.vo, hy.vo, h]
/-! ### the whole -/
/-- with nothing behind -/
def whole {α : Type} (zs : List Int) : Except Nat (α × Nat) → Except Nat α
  | .error e => .error e
  | .ok (v, b) => if b = zs.length then .ok v else .error b
def toW {α : Type} (f : α → D) (μ : Mem) : Except Nat α → Out D
  | .error e => .exc (brok e) μ
  | .ok v => .ok (f v) μ
theorem end_ok {zs : List Int} {v : D} (h : Oh zs d) (hv : locB false 0 v = true) {b : Nat} : callP w_need_end [d, .tup [v, .int (b : Int)]] μ = if b = zs.length then .ok v μ else .exc (brok b) μ := by
  have i1 : ∀ μ, gIx (.tup [v, .int (b : Int)]) (.int 1) μ = some (.int (b : Int)) := fun μ => ix_nat (k := 1) (xs := [v, .int (b : Int)]) rfl
  have i0 : ∀ μ, gIx (.tup [v, .int (b : Int)]) (.int 0) μ = some v := fun μ => ix_nat (k := 0) (xs := [v, .int (b : Int)]) rfl
  have ls : locBs false 0 [d, .tup [v, .int (b : Int)]] = true := h.pl.ls (by simp [locBs, locB, hv])
  have ln := h.len (μ := [])
  have vd := h.pl.vo
  by_cases c : b = zs.length
  · rw [if_pos c]
    subst c
    refine callP_ok (μ' := []) (body_ret (δ := [some d, some (.tup [v, .int (zs.length : Int)])]) rfl ?_) ls hv
    simp [eVar_run, vd, i1, i0, ln]
  · rw [if_neg c]
    have c' : ¬ ((b : Int) = (zs.length : Int)) := by omega
    refine callP_exc (μ' := []) (body_exc (δ := [some d, some (.tup [v, .int (b : Int)])]) (δ' := [some d, some (.tup [v, .int (b : Int)])]) rfl ?_) ls rfl
    simp [eVar_run, vd, i1, i0, ln, c', brok]
theorem whole_gen {α : Type} {f : α → D} {zs : List Int} {r : Except Nat (α × Nat)} {rd : FM} (h : Oh zs d) (hf : ∀ a, locB false 0 (f a) = true) (hr : ∀ μ, callP rd [d, .int 0] μ = toE f μ r) :
    callP (bodyM 1 (sRet (eCallP w_need_end (aCons (eVar 0) (aCons (eCallP rd (aCons (eVar 0) (aCons (eC (.int 0)) aNil))) aNil))))) [d] μ = toW f μ (whole zs r) := by
  have vd := h.pl.vo
  cases r with
  | error e =>
    refine callP_exc (μ' := []) (body_exc (δ := [some d]) (δ' := [some d]) rfl ?_) (h.pl.ls rfl) rfl
    simp [eVar_run, vd, hr, toE]
  | ok p =>
    obtain ⟨v, b⟩ := p
    have en := end_ok (μ := []) h (hf v) (b := b)
    unfold whole
    by_cases c : b = zs.length
    · rw [if_pos c] at en
      simp only [if_pos c]
      refine callP_ok (μ' := []) (body_ret (δ := [some d]) rfl ?_) (h.pl.ls rfl) (hf v)
      simp [eVar_run, vd, hr, toE, en]
    · rw [if_neg c] at en
      simp only [if_neg c]
      refine callP_exc (μ' := []) (body_exc (δ := [some d]) (δ' := [some d]) rfl ?_) (h.pl.ls rfl) rfl
      simp [eVar_run, vd, hr, toE, en]
theorem whole_exc {x : Xn} {rd : FM} (hd : Pl d) (hr : ∀ μ, callP rd [d, .int 0] μ = .exc x μ) (hx : locBs false 0 (x.fs.map (·.2)) = true) :
    callP (bodyM 1 (sRet (eCallP w_need_end (aCons (eVar 0) (aCons (eCallP rd (aCons (eVar 0) (aCons (eC (.int 0)) aNil))) aNil))))) [d] μ = .exc x μ := by
  refine callP_exc (μ' := []) (body_exc (δ := [some d]) (δ' := [some d]) rfl ?_) (hd.ls rfl) hx
  simp [eVar_run, hd.vo, hr]
theorem zero_nat : (D.int 0) = D.int ((0 : Nat) : Int) := rfl
theorem wnumb_run {zs : List Int} (h : Oh zs d) (hz : Oc zs) : callP w_whole_number [d] μ = toW D.int μ (whole zs (numAt zs 0)) := whole_gen h (fun _ => rfl) fun μ => rnum_run h hz 0
theorem woct_run {zs : List Int} (h : Oh zs d) (hz : Oc zs) : callP w_whole_octets [d] μ = toW oT μ (whole zs (octAt zs 0)) := whole_gen h (fun zs => (pl_oT zs).lc) fun μ => roct_run h hz 0
theorem wrow_run {zs : List Int} (h : Oh zs d) (hz : Oc zs) (hl : zs.length ≤ 900) : callP w_whole_row [d] μ = toW oR μ (whole zs (rowAt zs 0)) := whole_gen h oR_lc fun μ => rrow_run h hz hl 0
/-! ### writing -/
theorem nlen_ok {n : Int} (h0 : 0 ≤ n) (hl : (figs n).length ≤ 200) : callP w_number_length [.int n] μ = .ok (.int ((figs n).length + 1)) μ := by
  refine callP_ok (μ' := []) (body_ret (δ := [some (.int n)]) rfl ?_) rfl rfl
  have wn := wnum_ok (μ := []) h0 hl
  have ln : ∀ μ, gLen [oT (numL n)] μ = some (.int ((figs n).length + 1)) := fun μ => by simp [numL]
  generalize oT (numL n) = tn at *
  simp [eVar_run, wn, ln]
theorem nlen_exc {x : Xn} (hd : Pl d) (h : ∀ μ, callP w_write_number [d] μ = .exc x μ) (hx : locBs false 0 (x.fs.map (·.2)) = true) : callP w_number_length [d] μ = .exc x μ := by
  refine callP_exc (μ' := []) (body_exc (δ := [some d]) (δ' := [some d]) rfl ?_) (hd.ls rfl) hx
  simp [eVar_run, hd.vo, h]
def octL (zs : List Int) : List Int := numL zs.length ++ zs
theorem figs_small {n : Int} (h : n < 256 ^ 200) : (figs n).length ≤ 200 := by
  have key : ∀ (j k : Nat) (n : Int), n < 256 ^ j → (figF k n).length ≤ j := fun j => by
    induction j with
    | zero =>
      intro k n hn
      have : ¬ 0 < n := by simp at hn; omega
      cases k with
      | zero => simp [figF]
      | succ k => rw [figF, if_neg this]; simp
    | succ j ih =>
      intro k n hn
      cases k with
      | zero => simp [figF]
      | succ k =>
        rw [figF]
        split
        · have := ih k (n / 256) (by
            rw [Int.pow_succ] at hn
            generalize (256 : Int) ^ j = p at *
            omega)
          simp; omega
        · simp
  unfold figs
  rw [List.length_reverse]
  exact key 200 201 n h
theorem figs_great {n : Int} {j : Nat} (hj : j ≤ 200) (h : 256 ^ j ≤ n) : j < (figs n).length := by
  have key : ∀ (j k : Nat) (n : Int), j < k → 256 ^ j ≤ n → j < (figF k n).length := fun j => by
    induction j with
    | zero =>
      intro k n hk hn
      obtain ⟨k, rfl⟩ : ∃ m, k = m + 1 := ⟨k - 1, by omega⟩
      rw [figF, if_pos (by simp at hn; omega)]
      simp
    | succ j ih =>
      intro k n hk hn
      obtain ⟨k, rfl⟩ : ∃ m, k = m + 1 := ⟨k - 1, by omega⟩
      have hp : (0 : Int) < 256 ^ j := Int.pow_pos (by omega)
      rw [Int.pow_succ] at hn
      have := ih k (n / 256) (by omega) (by generalize (256 : Int) ^ j = p at *; omega)
      rw [figF, if_pos (by generalize (256 : Int) ^ j = p at *; omega)]
      simp; omega
  unfold figs
  rw [List.length_reverse]
  exact key j 201 n (by omega) h
theorem len_small {k : Nat} (h : k ≤ 1000000) : (figs (k : Int)).length ≤ 200 := figs_small (by
  have : (1000000 : Int) < 256 ^ 200 := by decide +kernel
  omega)
theorem woct_ok {zs : List Int} (h : Oh zs d) (hz : Oc zs) (hl : zs.length ≤ 100000) : callP w_write_octets [d] μ = .ok (oT (octL zs)) μ := by
  refine callP_ok (μ' := []) (body_ret (δ := [some d, none]) rfl ?_) (h.pl.ls rfl) (pl_oT _).lc
  have nd := h.need (μ := []) hz
  have vd := h.pl.vo
  have wn := wnum_ok (μ := []) (n := (zs.length : Int)) (by omega) (len_small (by omega))
  have ln : ∀ μ, gLen [oT zs] μ = some (.int (zs.length : Int)) := fun μ => by simp
  have nl : (numL (zs.length : Int)).length ≤ 300 := by
    have := len_small (k := zs.length) (by omega)
    simp [numL]
    omega
  have ad : ∀ μ, gAdd (oT (numL (zs.length : Int))) (oT zs) μ = some (oT (octL zs)) := fun μ => by
    rw [gAdd_tup (by simp; omega)]
    simp [octL]
  have vf : ∀ μ, vOf (some (some (oT zs))) μ = .ok (oT zs) μ := fun _ => rfl
  generalize oT (octL zs) = t1 at *
  generalize oT (numL (zs.length : Int)) = t2 at *
  generalize oT zs = t3 at *
  simp [eVar_run, vd, nd, vf, ln, wn, ad]
theorem woct_exc {x : Xn} (hd : Pl d) (h : ∀ μ, callP w_need_octets [d] μ = .exc x μ) (hx : locBs false 0 (x.fs.map (·.2)) = true) : callP w_write_octets [d] μ = .exc x μ := by
  refine callP_exc (μ' := []) (body_exc (δ := [some d, none]) (δ' := [some d, none]) rfl ?_) (hd.ls rfl) hx
  simp [eVar_run, hd.vo, h]
theorem wrow_bad (hp : Pl d) (h : isSeqD d = false) : callP w_write_row [d] μ = .exc (refu d) μ := by
  refine callP_exc (μ' := []) (body_exc (δ := [some d, none, none]) (δ' := [some d, none, none]) rfl ?_) (hp.ls rfl) (by simpa [refu] using hp.ls rfl)
  simp [eVar_run, hp.vo, w_seq hp, h, refu]
end
end Kw

set_option Elab.async false
set_option linter.all false
set_option maxRecDepth 100000
set_option exponentiation.threshold 4000
/-! what shows itself, of ints up to 10^570 -/
namespace Kw
open PySem PySem.Spec PyProof.Rows L2
/-- depth, how much -/
inductive Sb : Nat → Nat → D → Prop
  | non {n w : Nat} : Sb n w .non
  | bl {n w : Nat} {b : Bool} : Sb n w (.bl b)
  | int {n w : Nat} {i : Int} (h : i.natAbs < 10 ^ 570) : Sb n w (.int i)
  | str {n w : Nat} {x : Str} (h : (PyData.showable (.str x) && PyData.leavesShort 580 (.str x) && PyData.strOk (PyData.shown (.str x)) && PyData.canLay0 (.str x) && decide (x.cps.size ≤ w)) = true) : Sb n w (.str x)
  | tup {n w W : Nat} {xs : List D} (h : ∀ x ∈ xs, Sb n w x) (hl : xs.length * (w + 1) ≤ W) : Sb (n + 1) W (.tup xs)
  | lst {n w W : Nat} {xs : List D} (h : ∀ x ∈ xs, Sb n w x) (hl : xs.length * (w + 1) ≤ W) : Sb (n + 1) W (.lst xs)
  | scr {n w W : Nat} {xs : List D} (h : ∀ x ∈ xs, Sb n w x) (hl : xs.length * (w + 1) ≤ W) : Sb (n + 1) W (.scr xs)
structure Shb (n w : Nat) (p : PyData) : Prop where
  sh : p.showable = true
  nd : p.hasDict = false
  dp : p.depth ≤ n
  bk : p.bulk ≤ w
  sl : p.leavesShort 580 = true
  cl : p.canLay0 = true
  ok : PyData.strOk p.shown = true
structure Shbs (n w : Nat) (ps : List PyData) : Prop where
  sh : PyData.showableAll ps = true
  nd : PyData.hasDictAll ps = false
  dp : PyData.depthAll ps ≤ n
  bk : PyData.bulkAll ps ≤ w
  sl : PyData.leavesShortAll 580 ps = true
  cl : PyData.canLayAll0 ps = true
  ok : ∀ t ∈ PyData.shownAll ps, PyData.strOk t = true
theorem shbs_of {n w : Nat} : ∀ {xs : List D}, (∀ x ∈ xs, ∃ p, (∀ f, pyW f x = some p) ∧ Shb n w p) → ∃ ps, (∀ f, pyWs f xs = some ps) ∧ Shbs n (xs.length * (w + 1)) ps
  | [], _ => ⟨[], fun _ => rfl, rfl, rfl, Nat.zero_le _, Nat.zero_le _, rfl, rfl, fun _ h => nomatch h⟩
  | x :: xs, h => by
    obtain ⟨p, e, q⟩ := h x (.head _)
    obtain ⟨ps, es, qs⟩ := shbs_of (xs := xs) fun y hy => h y (.tail _ hy)
    refine ⟨p :: ps, fun f => by rw [pyWs, e f, es f], ?_, ?_, ?_, ?_, ?_, ?_, ?_⟩
    · rw [PyData.showableAll, q.sh, qs.sh]; rfl
    · rw [PyData.hasDictAll, q.nd, qs.nd]; rfl
    · rw [PyData.depthAll]; exact Nat.max_le.mpr ⟨q.dp, qs.dp⟩
    · rw [PyData.bulkAll, List.length_cons, Nat.succ_mul]; have := q.bk; have := qs.bk; omega
    · rw [PyData.leavesShortAll, q.sl, qs.sl]; rfl
    · rw [PyData.canLayAll0, q.cl, qs.cl]; rfl
    · intro t ht
      rw [PyData.shownAll_cons] at ht
      cases ht with
      | head => exact q.ok
      | tail _ ht => exact qs.ok t ht
theorem Sb.py {n w : Nat} {d : D} (h : Sb n w d) : ∃ p, (∀ f, pyW f d = some p) ∧ Shb n w p := by
  induction h with
  | non => exact ⟨.none, fun _ => rfl, rfl, rfl, Nat.zero_le _, Nat.zero_le _, rfl, rfl, by rw [PyData.shown_none]; exact strOk_lit _⟩
  | bl => exact ⟨.bool _, fun _ => rfl, rfl, rfl, Nat.zero_le _, Nat.zero_le _, rfl, rfl, by rw [PyData.shown_bool]; split <;> exact strOk_lit _⟩
  | @int n w i h =>
    have h13 : (PyData.shown (.int i)).length ≤ 580 := by
      have e := int_text_length_le10 (k := 570) (by decide) h
      show (Str.ofString (toString i)).length ≤ 580
      rw [PySem.ofString_length]
      omega
    refine ⟨.int i, fun _ => rfl, ?_, rfl, Nat.zero_le _, Nat.zero_le _, ?_, rfl, by rw [PyData.shown_int]; exact strOk_lit _⟩
    · rw [PyData.showable]
      have hn : i.natAbs < 2 ^ 1920 := Nat.lt_trans h (by decide +kernel)
      by_cases h0 : i.natAbs = 0
      · rw [h0]; decide
      · exact decide_eq_true ((Nat.log2_lt h0).mpr hn)
    · rw [PyData.leavesShort]; exact decide_eq_true h13
  | @str n w x h =>
    simp only [Bool.and_eq_true, decide_eq_true_eq] at h
    exact ⟨.str x, fun _ => rfl, h.1.1.1.1, rfl, Nat.zero_le _, h.2, h.1.1.1.2, h.1.2, h.1.1.2⟩
  | @tup n w W xs _ hl ih =>
    obtain ⟨ps, e, q⟩ := shbs_of ih
    exact ⟨.tuple ps, fun f => by rw [pyW, e f], by rw [PyData.showable, q.sh], by rw [PyData.hasDict, q.nd], by rw [PyData.depth]; exact Nat.succ_le_succ q.dp, by rw [PyData.bulk]; exact Nat.le_trans q.bk hl, by rw [PyData.leavesShort, q.sl], by rw [PyData.canLay0, q.cl], ok_tuple q.ok⟩
  | @lst n w W xs _ hl ih =>
    obtain ⟨ps, e, q⟩ := shbs_of ih
    exact ⟨.list ps, fun f => by rw [pyW, e f], by rw [PyData.showable, q.sh], by rw [PyData.hasDict, q.nd], by rw [PyData.depth]; exact Nat.succ_le_succ q.dp, by rw [PyData.bulk]; exact Nat.le_trans q.bk hl, by rw [PyData.leavesShort, q.sl], by rw [PyData.canLay0, q.cl], ok_list q.ok⟩
  | @scr n w W xs _ hl ih =>
    obtain ⟨ps, e, q⟩ := shbs_of ih
    exact ⟨.list ps, fun f => by rw [pyW, e f], by rw [PyData.showable, q.sh], by rw [PyData.hasDict, q.nd], by rw [PyData.depth]; exact Nat.succ_le_succ q.dp, by rw [PyData.bulk]; exact Nat.le_trans q.bk hl, by rw [PyData.leavesShort, q.sl], by rw [PyData.canLay0, q.cl], ok_list q.ok⟩
theorem Sb.repr {n w : Nat} {d : D} (h : Sb n w d) (hn : n ≤ 60) (hw : w ≤ 28000) : ∃ s, PyData.strOk s = true ∧ ∀ μ, gRepr [d] μ = some (.str s) := by
  obtain ⟨p, e, q⟩ := h.py
  refine ⟨p.shown, q.ok, fun μ => ?_⟩
  have e' : pyOf μ d = some p := e _
  unfold gRepr
  simp only [e']
  exact if_pos ⟨q.sh, q.nd, Nat.le_trans q.dp (by omega), by
    have h := PyData.shown_le_bulk 580 (by decide) p q.sl
    have h2 : (580 + 2) * p.bulk ≤ 582 * 28000 := Nat.mul_le_mul (by omega) (Nat.le_trans q.bk hw)
    rw [sizeLine_eq]
    omega⟩
theorem Sb.eqs {n w : Nat} {d : D} (h : Sb n w d) (hn : n ≤ 60) (μ : Mem) : eqD d d μ = some true := by
  obtain ⟨p, e, q⟩ := h.py
  have s : SeqAt.shaped p = true := by
    unfold SeqAt.shaped
    rw [q.cl, Bool.true_and]
    exact decide_eq_true (Nat.le_trans q.dp (by omega))
  unfold eqD pyOf
  rw [e]
  simp only [s, Bool.and_self, if_true]
  exact congrArg some (SeqAt.eqv_refl p q.cl)
theorem Sb.ne {n w : Nat} {d : D} (h : Sb n w d) (hn : n ≤ 60) (μ : Mem) : gNe d d μ = some (.bl false) := by
  unfold gNe
  rw [h.eqs hn]
  rfl
theorem Sb.eq {n w : Nat} {d : D} (h : Sb n w d) (hn : n ≤ 60) (μ : Mem) : gEq d d μ = some (.bl true) := by
  unfold gEq
  rw [h.eqs hn]

/-- equal reprs -/
theorem rep_neB {n w : Nat} {d : D} (h : Sb n w d) (hn : n ≤ 60) (hw : w ≤ 28000) : ∃ s, PyData.strOk s = true ∧ (∀ μ, gRepr [d] μ = some (.str s)) ∧ ∀ μ, gNe (.str s) (.str s) μ = some (.bl false) := by
  obtain ⟨s, h1, h2⟩ := h.repr hn hw
  exact ⟨s, h1, h2, str_nes h1⟩
theorem Sb.ints {n w : Nat} {zs : List Int} (h : ∀ z ∈ zs, 0 ≤ z ∧ z < 256) (hw : zs.length ≤ w) : Sb (n + 1) w (oT zs) := .tup (w := 0) (fun x hx => by
  obtain ⟨z, hz, rfl⟩ := List.mem_map.mp hx
  have := h z hz
  exact .int (Nat.lt_of_lt_of_le (show z.natAbs < 1000 by omega) (by decide +kernel))) (by simpa using hw)
end Kw

set_option Elab.async false
set_option linter.all false
set_option maxRecDepth 100000
set_option exponentiation.threshold 4000
/-! the codec's plain law: what is written is read, and only so -/
namespace Kw
open PySem PySem.Spec PyProof.Rows L2
/-! ### figures -/
theorem figF_zero {k : Nat} {n : Int} (h : n ≤ 0) : figF k n = [] := by
  cases k with
  | zero => rfl
  | succ k => rw [figF, if_neg (by omega)]
theorem figF_more : ∀ (k j : Nat) (n : Int), n < 256 ^ k → figF (k + j) n = figF k n
  | 0, j, n, h => by
    rw [figF_zero (by simp at h; omega), figF_zero (by simp at h; omega)]
  | k + 1, j, n, h => by
    rw [show k + 1 + j = (k + j) + 1 by omega, figF, figF]
    split
    · rw [figF_more k j (n / 256) (by
        rw [Int.pow_succ] at h
        generalize (256 : Int) ^ k = p at *
        omega)]
    · rfl
theorem figF_val : ∀ (k : Nat) (n : Int), 0 ≤ n → n < 256 ^ k → valL (figF k n).reverse = n
  | 0, n, h0, h => by simp at h; rw [figF]; show (0 : Int) = n; omega
  | k + 1, n, h0, h => by
    rw [figF]
    split
    · rw [List.reverse_cons, valL_snoc, figF_val k (n / 256) (by omega) (by
        rw [Int.pow_succ] at h
        generalize (256 : Int) ^ k = p at *
        omega)]
      omega
    · show (0 : Int) = n
      omega
theorem figF_last : ∀ (k : Nat) (n : Int), 0 ≤ n → n < 256 ^ k → (figF k n).getLast? ≠ some 0
  | 0, n, h0, h => by simp [figF]
  | k + 1, n, h0, h => by
    rw [figF]
    split
    · next hn =>
      by_cases c : n / 256 ≤ 0
      · rw [figF_zero c]
        simp
        omega
      · have i := figF_last k (n / 256) (by omega) (by
          rw [Int.pow_succ] at h
          generalize (256 : Int) ^ k = p at *
          omega)
        cases e : figF k (n / 256) with
        | nil =>
          have : figF k (n / 256) ≠ [] := by
            cases k with
            | zero => simp at h; omega
            | succ k => rw [figF, if_pos (by omega)]; simp
          exact absurd e this
        | cons x xs =>
          rw [e] at i
          rw [List.getLast?_cons_cons]
          exact i
    · simp
def NumOk (n : Int) : Prop := 0 ≤ n ∧ n < 256 ^ 200
theorem p200 : (256 : Int) ^ 200 < 256 ^ 201 := by decide +kernel
theorem figs_val {n : Int} (h : NumOk n) : valL (figs n) = n := figF_val 201 n h.1 (by have := h.2; have := p200; omega)
theorem figs_len200 {n : Int} (h : NumOk n) : (figs n).length ≤ 200 := figs_small h.2
theorem figs_head {n : Int} (h : NumOk n) : (figs n)[0]? ≠ some 0 := by
  unfold figs
  rw [← List.head?_eq_getElem?, List.head?_reverse]
  exact figF_last 201 n h.1 (by have := h.2; have := p200; omega)
/-- figures that are their number's own -/
theorem valL_pos {fs : List Int} (h : Oc fs) (h0 : fs[0]? ≠ some 0) (hne : fs ≠ []) : 0 < valL fs := by
  have key : ∀ (m : Nat) (fs : List Int), fs.length = m → Oc fs → fs[0]? ≠ some 0 → fs ≠ [] → 0 < valL fs := fun m => by
    induction m with
    | zero => intro fs e _ _ hne; exact absurd (List.eq_nil_of_length_eq_zero e) hne
    | succ m ih =>
      intro fs e h h0 hne
      obtain ⟨ys, z, rfl⟩ : ∃ ys z, fs = ys ++ [z] := ⟨fs.dropLast, fs.getLast hne, (List.dropLast_concat_getLast _).symm⟩
      have hz := h z (by simp)
      rw [valL_snoc]
      by_cases hy : ys = []
      · subst hy
        have : z ≠ 0 := fun c => h0 (by subst c; rfl)
        have : valL ([] : List Int) = 0 := rfl
        omega
      · have := ih ys (by simpa using e) (fun y hy => h y (List.mem_append_left _ hy)) (fun c => h0 (by rw [List.getElem?_append_left (by cases ys with | nil => exact absurd rfl hy | cons _ _ => simp)]; exact c)) hy
        omega
  exact key _ fs rfl h h0 hne
theorem figF_of {fs : List Int} (h : Oc fs) (h0 : fs[0]? ≠ some 0) {k : Nat} (hk : fs.length ≤ k) : figF k (valL fs) = fs.reverse := by
  have key : ∀ (m : Nat) (fs : List Int) (k : Nat), fs.length = m → Oc fs → fs[0]? ≠ some 0 → fs.length ≤ k → figF k (valL fs) = fs.reverse := fun m => by
    induction m with
    | zero =>
      intro fs k e _ _ _
      have := List.eq_nil_of_length_eq_zero e
      subst this
      exact figF_zero (Int.le_refl _)
    | succ m ih =>
      intro fs k e h h0 hk
      have hne : fs ≠ [] := by intro c; subst c; simp at e
      have hp := valL_pos h h0 hne
      obtain ⟨ys, z, rfl⟩ : ∃ ys z, fs = ys ++ [z] := ⟨fs.dropLast, fs.getLast hne, (List.dropLast_concat_getLast _).symm⟩
      obtain ⟨k, rfl⟩ : ∃ j, k = j + 1 := ⟨k - 1, by simp at hk; omega⟩
      have hz := h z (by simp)
      rw [figF, if_pos hp, valL_snoc]
      have e1 : (valL ys * 256 + z) % 256 = z := by omega
      have e2 : (valL ys * 256 + z) / 256 = valL ys := by omega
      have hy0 : ys[0]? ≠ some 0 := by
        cases ys with
        | nil => simp
        | cons y r => exact fun c => h0 (by simpa using c)
      rw [e1, e2, ih ys k (by simpa using e) (fun y hy => h y (List.mem_append_left _ hy)) hy0 (by simp at hk; omega)]
      simp
  exact key _ fs k rfl h h0 hk
theorem valL_lt {zs : List Int} (h : Oc zs) : valL zs < 256 ^ zs.length := by
  have key : ∀ (n : Nat) (zs : List Int), zs.length = n → Oc zs → valL zs < 256 ^ zs.length := fun n => by
    induction n with
    | zero => intro zs e _; have := List.eq_nil_of_length_eq_zero e; subst this; decide
    | succ n ih =>
      intro zs e h
      obtain ⟨ys, z, rfl⟩ : ∃ ys z, zs = ys ++ [z] := ⟨zs.dropLast, zs.getLast (by intro e'; subst e'; simp at e), (List.dropLast_concat_getLast _).symm⟩
      have i := ih ys (by simpa using e) fun y hy => h y (List.mem_append_left _ hy)
      have hz := h z (by simp)
      rw [valL_snoc, List.length_append, List.length_singleton, Int.pow_succ]
      generalize (256 : Int) ^ ys.length = p at *
      omega
  exact key _ zs rfl h
theorem figs_of {fs : List Int} (h : Oc fs) (h0 : fs[0]? ≠ some 0) (hk : fs.length ≤ 200) : figs (valL fs) = fs ∧ NumOk (valL fs) := by
  refine ⟨?_, valL_nn h, ?_⟩
  · unfold figs
    rw [figF_of h h0 (by omega), List.reverse_reverse]
  · have h1 := valL_lt h
    have h2 : (256 : Int) ^ fs.length ≤ 256 ^ 200 := by
      have := Nat.pow_le_pow_right (n := 256) (by omega) hk
      exact_mod_cast this
    omega
/-! ### numbers -/
theorem numAt_there {n : Int} (h : NumOk n) (A B : List Int) : numAt (A ++ numL n ++ B) A.length = .ok (n, A.length + (numL n).length) := by
  have hl := figs_len200 h
  have e0 : (A ++ numL n ++ B)[A.length]? = some ((figs n).length : Int) := by
    rw [List.append_assoc, List.getElem?_append_right (Nat.le_refl _)]
    simp [numL]
  unfold numAt
  rw [e0]
  simp only
  rw [if_neg (by omega), Int.toNat_natCast]
  have len : (A ++ numL n ++ B).length = A.length + 1 + (figs n).length + B.length := by simp [numL]; omega
  rw [if_neg (by omega)]
  have dr : (A ++ numL n ++ B).drop (A.length + 1) = figs n ++ B := by
    rw [List.append_assoc, ← List.drop_drop, List.drop_left]
    simp [numL]
  have tk : ((A ++ numL n ++ B).drop (A.length + 1)).take (figs n).length = figs n := by
    rw [dr]
    exact List.take_left
  rw [tk, figs_val h]
  rw [if_neg]
  · simp [numL]; omega
  · intro ⟨c1, c2⟩
    refine figs_head h ?_
    have : (A ++ numL n ++ B)[A.length + 1]? = ((A ++ numL n ++ B).drop (A.length + 1))[0]? := by rw [List.getElem?_drop]
    rw [this, dr] at c2
    rw [List.getElem?_append_left (by omega)] at c2
    exact c2
theorem numAt_only {zs : List Int} (hz : Oc zs) {a b : Nat} {n : Int} (e : numAt zs a = .ok (n, b)) : NumOk n ∧ a ≤ b ∧ b ≤ zs.length ∧ (zs.drop a).take (b - a) = numL n := by
  unfold numAt at e
  split at e
  · cases e
  · next m hm =>
    split at e
    · cases e
    · next c1 =>
      split at e
      · cases e
      · next c2 =>
        split at e
        · cases e
        · next c3 =>
          cases e
          have hmz := hz m (List.mem_of_getElem? hm)
          obtain ⟨fs, hfs⟩ : ∃ fs, fs = (zs.drop (a + 1)).take m.toNat := ⟨_, rfl⟩
          have lfs : fs.length = m.toNat := by rw [hfs]; simp; omega
          have ofs : Oc fs := by rw [hfs]; exact oc_sub hz _ _
          have h0 : fs[0]? ≠ some 0 := by
            rw [hfs, List.getElem?_take, List.getElem?_drop]
            split
            · next c => exact fun q => c3 ⟨by omega, q⟩
            · simp
          obtain ⟨g1, g2⟩ := figs_of ofs h0 (by omega)
          rw [← hfs]
          refine ⟨g2, by omega, by omega, ?_⟩
          have hlt : a < zs.length := (List.getElem?_eq_some_iff.mp hm).1
          have e1 : a + 1 + m.toNat - a = m.toNat + 1 := by omega
          rw [e1, List.drop_eq_getElem_cons hlt, List.take_succ_cons, (List.getElem?_eq_some_iff.mp hm).2, ← hfs]
          unfold numL
          rw [g1, lfs]
          congr 1
          omega
/-! ### octets -/
def OctOk (r : List Int) : Prop := Oc r ∧ r.length ≤ 100000
theorem len_ok {k : Nat} (h : k ≤ 1000000) : NumOk (k : Int) := ⟨by omega, by
  have : (1000000 : Int) < 256 ^ 200 := by decide +kernel
  omega⟩
theorem take_mid {A B C : List Int} : ((A ++ B ++ C).drop A.length).take B.length = B := by
  rw [List.append_assoc, List.drop_left, List.take_left]
theorem octAt_there {r : List Int} (h : OctOk r) (A B : List Int) : octAt (A ++ octL r ++ B) A.length = .ok (r, A.length + (octL r).length) := by
  have n := numAt_there (len_ok (k := r.length) (by have := h.2; omega)) A (r ++ B)
  unfold octAt
  have e : A ++ octL r ++ B = A ++ numL (r.length : Int) ++ (r ++ B) := by simp [octL]
  rw [e, n]
  simp only
  have len : (A ++ numL (r.length : Int) ++ (r ++ B)).length = A.length + (numL (r.length : Int)).length + r.length + B.length := by simp; omega
  rw [if_neg (by omega), Int.toNat_natCast]
  have d : (A ++ numL (r.length : Int) ++ (r ++ B)).drop (A.length + (numL (r.length : Int)).length) = r ++ B := by
    rw [← List.length_append, List.drop_left]
  rw [d, List.take_left]
  simp [octL]
  omega
theorem octAt_only {zs : List Int} (hz : Oc zs) (hl : zs.length ≤ 100000) {a b : Nat} {r : List Int} (e : octAt zs a = .ok (r, b)) : OctOk r ∧ a ≤ b ∧ b ≤ zs.length ∧ (zs.drop a).take (b - a) = octL r := by
  obtain ⟨q1, q2, q3, q4⟩ := octAt_nn hz e
  unfold octAt at e
  split at e
  · cases e
  · next n b' hn =>
    obtain ⟨k1, k2, k3, k4⟩ := numAt_only hz hn
    split at e
    · cases e
    · next c =>
      cases e
      have hr : ((zs.drop b').take n.toNat).length = n.toNat := by simp; have := k1.1; omega
      refine ⟨⟨q3, by omega⟩, by omega, q2, ?_⟩
      unfold octL
      rw [hr, Int.toNat_of_nonneg k1.1, ← k4]
      have e1 : b' + n.toNat - a = (b' - a) + n.toNat := by omega
      rw [e1, List.take_add, List.drop_drop]
      congr 3
      omega
/-! ### rows -/
def rowL (rs : List (List Int)) : List Int := numL (rs.length : Int) ++ (rs.map octL).flatten
def RowOk (rs : List (List Int)) : Prop := (∀ r ∈ rs, OctOk r) ∧ rs.length ≤ 100000
theorem rowF_there : ∀ (rs : List (List Int)) (A B : List Int) (acc : List (List Int)), (∀ r ∈ rs, OctOk r) → rowF rs.length (A ++ (rs.map octL).flatten ++ B) A.length acc = .ok (acc ++ rs, A.length + ((rs.map octL).flatten).length)
  | [], A, B, acc, _ => by simp [rowF]
  | r :: rs, A, B, acc, h => by
    have o := octAt_there (h r (.head _)) A ((rs.map octL).flatten ++ B)
    have e : A ++ ((r :: rs).map octL).flatten ++ B = A ++ octL r ++ ((rs.map octL).flatten ++ B) := by simp
    rw [List.length_cons, rowF, e, o]
    simp only
    have i := rowF_there rs (A ++ octL r) B (acc ++ [r]) fun q hq => h q (.tail _ hq)
    have e2 : A ++ octL r ++ ((rs.map octL).flatten ++ B) = (A ++ octL r) ++ (rs.map octL).flatten ++ B := by simp
    rw [e2, ← List.length_append, i]
    simp
    omega
theorem rowAt_there {rs : List (List Int)} (h : RowOk rs) (A B : List Int) : rowAt (A ++ rowL rs ++ B) A.length = .ok (rs, A.length + (rowL rs).length) := by
  have n := numAt_there (len_ok (k := rs.length) (by have := h.2; omega)) A ((rs.map octL).flatten ++ B)
  unfold rowAt
  have e : A ++ rowL rs ++ B = A ++ numL (rs.length : Int) ++ ((rs.map octL).flatten ++ B) := by simp [rowL]
  rw [e, n]
  simp only
  rw [Int.toNat_natCast]
  have f := rowF_there rs (A ++ numL (rs.length : Int)) B [] h.1
  have e2 : A ++ numL (rs.length : Int) ++ ((rs.map octL).flatten ++ B) = (A ++ numL (rs.length : Int)) ++ (rs.map octL).flatten ++ B := by simp
  rw [e2, ← List.length_append, f]
  simp [rowL]
  omega
theorem rowF_only {zs : List Int} (hz : Oc zs) (hl : zs.length ≤ 100000) : ∀ (n a : Nat) (acc rs : List (List Int)) (b : Nat), a ≤ zs.length → rowF n zs a acc = .ok (rs, b) → ∃ qs, rs = acc ++ qs ∧ qs.length = n ∧ (∀ q ∈ qs, OctOk q) ∧ a ≤ b ∧ b ≤ zs.length ∧ n ≤ b - a ∧ (zs.drop a).take (b - a) = (qs.map octL).flatten
  | 0, a, acc, rs, b, ha, e => by
    simp only [rowF, Except.ok.injEq, Prod.mk.injEq] at e
    obtain ⟨rfl, rfl⟩ := e
    exact ⟨[], by simp, rfl, (fun _ h => nomatch h), Nat.le_refl _, ha, by omega, by simp⟩
  | n + 1, a, acc, rs, b, ha, e => by
    rw [rowF] at e
    split at e
    · cases e
    · next r b' ho =>
      obtain ⟨k1, k2, k3, k4⟩ := octAt_only hz hl ho
      obtain ⟨qs, h1, h2, h3, h4, h5, h6, h7⟩ := rowF_only hz hl n b' (acc ++ [r]) rs b k3 e
      have hab : a < b' := (octAt_nn hz ho).1
      refine ⟨r :: qs, by rw [h1]; simp, by simp [h2], fun q hq => (List.mem_cons.mp hq).elim (fun c => c ▸ k1) (h3 q), by omega, h5, by omega, ?_⟩
      have e1 : b - a = (b' - a) + (b - b') := by omega
      rw [e1, List.take_add, List.drop_drop, k4]
      have e2 : a + (b' - a) = b' := by omega
      rw [e2, h7]
      simp
theorem rowAt_only {zs : List Int} (hz : Oc zs) (hl : zs.length ≤ 100000) {a b : Nat} {rs : List (List Int)} (e : rowAt zs a = .ok (rs, b)) : RowOk rs ∧ a ≤ b ∧ b ≤ zs.length ∧ (zs.drop a).take (b - a) = rowL rs := by
  unfold rowAt at e
  split at e
  · cases e
  · next n b' hn =>
    obtain ⟨k1, k2, k3, k4⟩ := numAt_only hz hn
    obtain ⟨qs, h1, h2, h3, h4, h5, h6, h7⟩ := rowF_only hz hl n.toNat b' [] rs b k3 e
    rw [List.nil_append] at h1
    subst h1
    refine ⟨⟨h3, by omega⟩, by omega, h5, ?_⟩
    have e1 : b - a = (b' - a) + (b - b') := by omega
    rw [e1, List.take_add, List.drop_drop, k4]
    have e2 : a + (b' - a) = b' := by omega
    rw [e2, h7]
    unfold rowL
    rw [h2, Int.toNat_of_nonneg k1.1]
/-! ### what follows for each such code -/
structure Cod (α : Type) (L : Nat) (enc : α → List Int) (dec : List Int → Nat → Except Nat (α × Nat)) (ok : α → Prop) : Prop where
  there : ∀ v, ok v → ∀ A B : List Int, dec (A ++ enc v ++ B) A.length = .ok (v, A.length + (enc v).length)
  only : ∀ zs a v b, Oc zs → zs.length ≤ L → dec zs a = .ok (v, b) → ok v ∧ a ≤ b ∧ b ≤ zs.length ∧ (zs.drop a).take (b - a) = enc v
theorem codNum : Cod Int 100000 numL numAt NumOk := ⟨fun v h A B => numAt_there h A B, fun zs a v b hz _ e => numAt_only hz e⟩
theorem codOct : Cod (List Int) 100000 octL octAt OctOk := ⟨fun v h A B => octAt_there h A B, fun zs a v b hz hl e => octAt_only hz hl e⟩
theorem codRow : Cod (List (List Int)) 100000 rowL rowAt RowOk := ⟨fun v h A B => rowAt_there h A B, fun zs a v b hz hl e => rowAt_only hz hl e⟩
section
variable {α : Type} {L : Nat} {enc : α → List Int} {dec : List Int → Nat → Except Nat (α × Nat)} {ok : α → Prop}
theorem Cod.start (C : Cod α L enc dec ok) {v : α} (h : ok v) (B : List Int) : dec (enc v ++ B) 0 = .ok (v, (enc v).length) := by
  have := C.there v h [] B
  simpa using this
theorem Cod.whole (C : Cod α L enc dec ok) {v : α} (h : ok v) : Kw.whole (enc v) (dec (enc v) 0) = .ok v := by
  have := C.start h []
  rw [List.append_nil] at this
  rw [this]
  simp [Kw.whole]
/-- with one behind it is no form -/
theorem Cod.behind (C : Cod α L enc dec ok) {v : α} (h : ok v) (x : Int) : ∃ e, Kw.whole (enc v ++ [x]) (dec (enc v ++ [x]) 0) = .error e := by
  rw [C.start h [x]]
  exact ⟨(enc v).length, by simp [Kw.whole]⟩
/-- no form begins another -/
theorem Cod.inj (C : Cod α L enc dec ok) {v u : α} (h : ok v) (hu : ok u) {B : List Int} (e : enc u = enc v ++ B) : u = v ∧ B = [] := by
  have h1 := C.start h B
  have h2 := C.start hu []
  rw [List.append_nil, e, h1] at h2
  simp only [Except.ok.injEq, Prod.mk.injEq] at h2
  refine ⟨h2.1.symm, ?_⟩
  have h3 := h2.2
  rw [List.length_append] at h3
  exact List.eq_nil_of_length_eq_zero (by omega)
theorem Cod.short (C : Cod α L enc dec ok) {v : α} (h : ok v) (ho : Oc (enc v)) (hl : (enc v).length ≤ L) {n : Nat} (hn : n < (enc v).length) : ∃ e, Kw.whole ((enc v).take n) (dec ((enc v).take n) 0) = .error e := by
  cases e : dec ((enc v).take n) 0 with
  | error e1 => exact ⟨e1, rfl⟩
  | ok p =>
    obtain ⟨u, b⟩ := p
    have ot : Oc ((enc v).take n) := fun z hz => ho z (List.mem_of_mem_take hz)
    obtain ⟨k1, k2, k3, k4⟩ := C.only _ _ _ _ ot (by simp; omega) e
    by_cases c : b = ((enc v).take n).length
    · exfalso
      rw [List.drop_zero, c, Nat.sub_zero, List.take_length] at k4
      have := C.inj (v := u) (u := v) k1 h (B := (enc v).drop n) (by rw [← k4, List.take_append_drop])
      have := this.2
      rw [List.drop_eq_nil_iff] at this
      omega
    · exact ⟨b, by unfold Kw.whole; simp only; rw [if_neg c]⟩
/-- what is found is the form of what is told -/
theorem Cod.found (C : Cod α L enc dec ok) {zs : List Int} (hz : Oc zs) (hl : zs.length ≤ L) {v : α} {b : Nat} (e : dec zs 0 = .ok (v, b)) : ok v ∧ zs.take b = enc v ∧ b ≤ zs.length := by
  obtain ⟨k1, k2, k3, k4⟩ := C.only _ _ _ _ hz hl e
  rw [List.drop_zero, Nat.sub_zero] at k4
  exact ⟨k1, k4, k3⟩
end
/-! ### the order of numbers is that of their forms -/
theorem lex_eq : ∀ (xs ys : List Int), xs.length = ys.length → Oc xs → Oc ys → ∀ a b : Int, HT.lexLt xs ys = true ∧ a = b ∨ a < b → xs.foldl (fun a z => a * 256 + z) a < ys.foldl (fun a z => a * 256 + z) b
  | [], [], _, _, _, a, b, h => by
    rcases h with ⟨h, _⟩ | h
    · cases h
    · exact h
  | x :: xs, y :: ys, hl, hx, hy, a, b, h => by
    have h1 := hx x (.head _)
    have h2 := hy y (.head _)
    refine lex_eq xs ys (by simpa using hl) (fun z hz => hx z (.tail _ hz)) (fun z hz => hy z (.tail _ hz)) (a * 256 + x) (b * 256 + y) ?_
    rcases h with ⟨h, rfl⟩ | h
    · rw [HT.lexLt_cons] at h
      split at h
      · next c => exact .inl ⟨h, by omega⟩
      · exact .inr (by have := of_decide_eq_true h; omega)
    · exact .inr (by omega)
theorem lex_irr : ∀ xs : List Int, HT.lexLt xs xs = false
  | [] => rfl
  | x :: xs => by rw [HT.lexLt_cons, if_pos rfl, lex_irr xs]
theorem lex_tri : ∀ (xs ys : List Int), xs.length = ys.length → HT.lexLt xs ys = false → HT.lexLt ys xs = true ∨ xs = ys
  | [], [], _, _ => .inr rfl
  | x :: xs, y :: ys, hl, h => by
    rw [HT.lexLt_cons] at h
    split at h
    · next c =>
      subst c
      rcases lex_tri xs ys (by simpa using hl) h with q | q
      · left; rw [HT.lexLt_cons, if_pos rfl, q]
      · right; rw [q]
    · next c =>
      left
      have := of_decide_eq_false h
      rw [HT.lexLt_cons, if_neg (fun z => c z.symm)]
      exact decide_eq_true (by omega)
theorem num_lt {a b : Int} (ha : NumOk a) (hb : NumOk b) : HT.lexLt (numL a) (numL b) = decide (a < b) := by
  have va := figs_val ha
  have vb := figs_val hb
  have la := valL_lt (figs_oc a)
  have lb := valL_lt (figs_oc b)
  rw [va] at la
  rw [vb] at lb
  have low : ∀ {n : Int}, NumOk n → ∀ j, j < (figs n).length → 256 ^ j ≤ n := fun {n} hn j hj => by
    refine Int.not_lt.mp fun c => ?_
    have key : ∀ (j k : Nat) (n : Int), n < 256 ^ j → (figF k n).length ≤ j := fun j => by
      induction j with
      | zero =>
        intro k n hn
        rw [figF_zero (by simp at hn; omega)]
        simp
      | succ j ih =>
        intro k n hn
        cases k with
        | zero => simp [figF]
        | succ k =>
          rw [figF]
          split
          · have := ih k (n / 256) (by
              rw [Int.pow_succ] at hn
              generalize (256 : Int) ^ j = p at *
              omega)
            simp; omega
          · simp
    have := key j 201 n c
    unfold figs at hj
    rw [List.length_reverse] at hj
    omega
  unfold numL
  rw [HT.lexLt_cons]
  by_cases c : ((figs a).length : Int) = (figs b).length
  · rw [if_pos c]
    have c' : (figs a).length = (figs b).length := by omega
    cases h : HT.lexLt (figs a) (figs b) with
    | true =>
      have := lex_eq _ _ c' (figs_oc a) (figs_oc b) 0 0 (.inl ⟨h, rfl⟩)
      have h2 : valL (figs a) < valL (figs b) := this
      rw [va, vb] at h2
      exact (decide_eq_true h2).symm
    | false =>
      rcases lex_tri _ _ c' h with q | q
      · have := lex_eq _ _ c'.symm (figs_oc b) (figs_oc a) 0 0 (.inl ⟨q, rfl⟩)
        have h2 : valL (figs b) < valL (figs a) := this
        rw [va, vb] at h2
        exact (decide_eq_false (by omega)).symm
      · rw [q, vb] at va
        exact (decide_eq_false (by omega)).symm
  · rw [if_neg c]
    congr 1
    refine propext ⟨fun h => ?_, fun h => ?_⟩
    · have h1 := low hb (figs a).length (by omega)
      omega
    · refine Int.not_le.mp fun h2 => ?_
      have h3 : (figs b).length < (figs a).length := by omega
      have h4 := low ha (figs b).length h3
      omega
end Kw

set_option Elab.async false
set_option linter.all false
set_option maxRecDepth 100000
set_option exponentiation.threshold 4000
/-! rows written; equality of data -/
namespace Kw
open PySem PySem.Spec PyProof.Rows L2
section
variable {μ : Mem}
theorem octL_len {r : List Int} {n : Nat} (h : r.length ≤ n) : (octL r).length ≤ n + 202 := by
  have := figs_len (r.length : Int)
  simp [octL, numL]
  omega
theorem octL_oc {r : List Int} (h : Oc r) (hl : r.length ≤ 1000000) : Oc (octL r) := by
  intro z hz
  rcases List.mem_append.mp hz with hz | hz
  · rcases List.mem_cons.mp hz with rfl | hz
    · have := len_small hl; omega
    · exact figs_oc _ z hz
  · exact h z hz
theorem numL_oc {n : Int} (h : NumOk n) : Oc (numL n) := by
  intro z hz
  rcases List.mem_cons.mp hz with rfl | hz
  · have := figs_len200 h; omega
  · exact figs_oc _ z hz
theorem wrow_okf {f : List Int → D} (hf : ∀ r, Oh r (f r)) {rs : List (List Int)} {d : D} (hp : Pl d) (hs : isSeqD d = true) (hi : itD d = rs.map f) (h : ∀ r ∈ rs, Oc r ∧ r.length ≤ 1000) (hl : rs.length ≤ 100) : callP w_write_row [d] μ = .ok (oT (rowL rs)) μ := by
  have wn := wnum_ok (μ := []) (n := (rs.length : Int)) (by omega) (len_small (by omega))
  have l0 : (numL (rs.length : Int)).length ≤ 202 := by have := figs_len (rs.length : Int); simp [numL]; omega
  have ln : ∀ μ, gLen [d] μ = some (.int (rs.length : Int)) := fun μ => by rw [gLen_D hs, hi]; simp
  obtain ⟨δ', μ', hlp, ⟨o, rfl⟩, rfl, _⟩ := loopS_pre (e := f) (g := gNm 2) (b := bWr) (R := fun pre δ μ => (∃ o, δ = [some d, some (oT (numL (rs.length : Int) ++ (pre.map octL).flatten)), o]) ∧ μ = [] ∧ ((pre.map octL).flatten).length ≤ 1202 * pre.length) rs (fun pre r post δ μ hm ⟨⟨o, e⟩, e2, e3⟩ => by
    subst e e2
    have hpl : pre.length < 100 := by
      have := congrArg List.length hm
      simp at this
      omega
    obtain ⟨q1, q2⟩ := h r (by rw [← hm]; simp)
    have wo : ∀ μ, callP w_write_octets [f r] μ = .ok (oT (octL r)) μ := fun μ => woct_ok (hf r) q1 (by omega)
    have lo := octL_len q2
    have ad : ∀ μ, gAddJ (oT (numL (rs.length : Int) ++ (pre.map octL).flatten)) (oT (octL r)) μ = some (oT (numL (rs.length : Int) ++ ((pre ++ [r]).map octL).flatten)) := fun μ => by
      rw [gAddJ_tup (by simp only [List.length_map, List.length_append]; omega), ← List.map_append]
      simp
    refine ⟨[some d, some (oT (numL (rs.length : Int) ++ (pre.map octL).flatten)), some (f r)], [some d, some (oT (numL (rs.length : Int) ++ ((pre ++ [r]).map octL).flatten)), some (f r)], [], [], rfl, .inl ?_, ⟨_, rfl⟩, rfl, by simp only [List.map_append, List.flatten_append, List.length_append, List.map_cons, List.map_nil, List.flatten_cons, List.flatten_nil, List.length_nil, List.length_cons]; omega⟩
    unfold bWr sAug
    have v2 : eVar 2 [some d, some (oT (numL (rs.length : Int) ++ (pre.map octL).flatten)), some (f r)] [] = .ok (f r) [] := (hf r).pl.vo []
    generalize oT (numL (rs.length : Int) ++ ((pre ++ [r]).map octL).flatten) = t2 at *
    simp only [List.getElem?_cons_succ, List.getElem?_cons_zero, eCallP_run, aCons_run, v2, bind_ok, aNil_run, wo, bindS_ok, ad]
    rfl) (δ := [some d, some (oT (numL (rs.length : Int))), none]) (μ := []) ⟨⟨none, by simp⟩, rfl, by simp⟩
  refine callP_ok (μ' := []) (body_ret (δ := [some d, none, none]) rfl ?_) (hp.ls rfl) (pl_oT _).lc
  have vd := hp.vo
  have ws := w_seq (μ := []) hp
  rw [seq_nx (δ1 := [some d, none, none]) (μ1 := []) (by simp [eVar_run, vd, ws, hs])]
  rw [seq_nx (δ1 := [some d, some (oT (numL (rs.length : Int))), none]) (μ1 := []) (by
    generalize oT (numL (rs.length : Int)) = t3 at *
    simp [eVar_run, vd, ln, wn])]
  have it : (iSeq (eVar 0)) [some d, some (oT (numL (rs.length : Int))), none] [] = .ok (rs.map f) [] := by
    have v0 : eVar 0 [some d, some (oT (numL (rs.length : Int))), none] [] = .ok d [] := hp.vo []
    rw [iSeq_run, v0, bind_ok, seqV_D hs, hi]
  rw [seq_nx (δ1 := [some d, some (oT (rowL rs)), o]) (μ1 := []) (by rw [sFor_run, it]; exact hlp)]
  rfl
end
/-! ### equal as data -/
/-- what d is, as a library's value; ints, tuples of ints, tuples of these -/
theorem eqvAll_ints : ∀ a b : List Int, PyData.eqvAll (a.map .int) (b.map .int) = (a == b)
  | [], [] => by rw [List.map_nil, PyData.eqvAll]; rfl
  | [], b :: bs => by rw [List.map_nil, List.map_cons, PyData.eqvAll]; rfl
  | a :: as, [] => by rw [List.map_nil, List.map_cons, PyData.eqvAll]; rfl
  | a :: as, b :: bs => by
    rw [List.map_cons, List.map_cons, PyData.eqvAll, eqvAll_ints as bs, List.cons_beq_cons]
    rfl
theorem eqvAll_rows : ∀ a b : List (List Int), PyData.eqvAll (a.map fun r => .tuple (r.map .int)) (b.map fun r => .tuple (r.map .int)) = (a == b)
  | [], [] => by rw [List.map_nil, PyData.eqvAll]; rfl
  | [], b :: bs => by rw [List.map_nil, List.map_cons, PyData.eqvAll]; rfl
  | a :: as, [] => by rw [List.map_nil, List.map_cons, PyData.eqvAll]; rfl
  | a :: as, b :: bs => by
    rw [List.map_cons, List.map_cons, PyData.eqvAll, eqvAll_rows as bs, List.cons_beq_cons, PyData.eqv, eqvAll_ints]
theorem pyWs_ints (f : Nat → Option PyData) : ∀ a : List Int, pyWs f (a.map D.int) = some (a.map .int)
  | [] => rfl
  | a :: as => by rw [List.map_cons, pyWs, pyWs_ints f as]; rfl
theorem pyW_oT (f : Nat → Option PyData) (a : List Int) : pyW f (oT a) = some (.tuple (a.map .int)) := by
  rw [pyW, pyWs_ints]
theorem pyWs_rows (f : Nat → Option PyData) : ∀ a : List (List Int), pyWs f (a.map oT) = some (a.map fun r => .tuple (r.map .int))
  | [] => rfl
  | a :: as => by rw [List.map_cons, pyWs, pyW_oT, pyWs_rows f as]; rfl
theorem can_ints : ∀ a : List Int, PyData.canLayAll0 (a.map .int) = true
  | [] => rfl
  | a :: as => by rw [List.map_cons, PyData.canLayAll0, can_ints as]; rfl
theorem dep_ints : ∀ a : List Int, PyData.depthAll (a.map .int) = 0
  | [] => rfl
  | a :: as => by rw [List.map_cons, PyData.depthAll, dep_ints as]; rfl
theorem shp_ints (a : List Int) : SeqAt.shaped (.tuple (a.map .int)) = true := by
  unfold SeqAt.shaped
  rw [PyData.canLay0, can_ints, PyData.depth, dep_ints]
  rfl
theorem can_rows : ∀ a : List (List Int), PyData.canLayAll0 (a.map fun r => .tuple (r.map .int)) = true
  | [] => rfl
  | a :: as => by rw [List.map_cons, PyData.canLayAll0, can_rows as, PyData.canLay0, can_ints]; rfl
theorem dep_rows : ∀ a : List (List Int), PyData.depthAll (a.map fun r => .tuple (r.map .int)) ≤ 1
  | [] => Nat.zero_le _
  | a :: as => by rw [List.map_cons, PyData.depthAll, PyData.depth, dep_ints]; exact Nat.max_le.mpr ⟨Nat.le_refl _, dep_rows as⟩
theorem shp_rows (a : List (List Int)) : SeqAt.shaped (.tuple (a.map fun r => .tuple (r.map .int))) = true := by
  unfold SeqAt.shaped
  rw [PyData.canLay0, can_rows, PyData.depth, Bool.true_and]
  exact decide_eq_true (by have := dep_rows a; omega)
section
variable {μ : Mem}
theorem eqD_oT (a b : List Int) : eqD (oT a) (oT b) μ = some (a == b) := by
  unfold eqD pyOf
  rw [pyW_oT, pyW_oT]
  simp only [shp_ints, Bool.and_self, if_true]
  rw [PyData.eqv, eqvAll_ints]
theorem eqD_oR (a b : List (List Int)) : eqD (oR a) (oR b) μ = some (a == b) := by
  unfold eqD pyOf
  rw [pyW, pyW, pyWs_rows, pyWs_rows]
  simp only [shp_rows, Bool.and_self, if_true]
  rw [PyData.eqv, eqvAll_rows]
theorem gEq_oT (a b : List Int) : gEq (oT a) (oT b) μ = some (.bl (a == b)) := by unfold gEq; rw [eqD_oT]
theorem gNe_oT (a b : List Int) : gNe (oT a) (oT b) μ = some (.bl !(a == b)) := by unfold gNe; rw [eqD_oT]
theorem gEq_oR (a b : List (List Int)) : gEq (oR a) (oR b) μ = some (.bl (a == b)) := by unfold gEq; rw [eqD_oR]
theorem gNe_oR (a b : List (List Int)) : gNe (oR a) (oR b) μ = some (.bl !(a == b)) := by unfold gNe; rw [eqD_oR]
end
end Kw

set_option Elab.async false
set_option linter.all false
set_option maxRecDepth 100000
/-! digests modulo 2^61 - 1, for all laws that reach them -/
namespace Kw
open PySem PySem.Spec PyProof.Rows L2
abbrev Pm : Int := 2305843009213693951
def w_need_base : FM := bodyM 1 (sSeq (sIf (tOrM (tNotM (tTru (eCallP w_is_below (aCons (eVar 0) (aCons (eC (.int 2305843009213693951)) aNil))))) (tBl (e2 gEq (eVar 0) (eC (.int 0))))) (sRaise "Refused" "at" (eVar 0)) sNext) (sRet (eVar 0)))
def cPow : TM := (tBl (e2 gGt (eVar 1) (eC (.int 0))))
def bPow : SM := (sSeq (sIf (tBl (e2 gEq (e2 gMod (eVar 1) (eC (.int 2))) (eC (.int 1)))) (sAsg (e2 gMod (e2 gMul (eVar 3) (eVar 4)) (eVar 2)) (gNm 3)) sNext) (sSeq (sAsg (e2 gMod (e2 gMul (eVar 4) (eVar 4)) (eVar 2)) (gNm 4)) (sAug 1 gFdv (eC (.int 2)))))
def w_power_of : FM := bodyM 5 (sSeq (sPar 3 4 (aCons (e2 gMod (eC (.int 1)) (eVar 2)) (aCons (e2 gMod (eVar 0) (eVar 2)) aNil))) (sSeq (sWhile (fun _ _ => 200) cPow bPow) (sRet (eVar 3))))
def bDig : SM := (sAsg (e2 gMod (e2 gAdd (e2 gAdd (e2 gMul (eVar 0) (eVar 2)) (eVar 3)) (eC (.int 1))) (eC (.int 2305843009213693951))) (gNm 0))
def w_digest_on : FM := bodyM 4 (sSeq (sFor (iSeq (eVar 1)) (gNm 3) bDig) (sRet (eVar 0)))
def w_digest : FM := bodyM 3 (sSeq (sAsg (eCallP w_need_octets (aCons (eVar 0) aNil)) (gNm 2)) (sRet (eCallP w_digest_on (aCons (eC (.int 0)) (aCons (eVar 2) (aCons (eCallP w_need_base (aCons (eVar 1) aNil)) aNil))))))
def w_is_named : FM := bodyM 1 (sRet (eAndM (eCallP w_is_sequence (aCons (eVar 0) aNil)) (eAndM (e2 gEq (eAs gLen (aCons (eVar 0) aNil)) (eC (.int 2))) (eAndM (eCallP w_is_below (aCons (e2 gIx (eVar 0) (eC (.int 0))) (aCons (eC (.int 2305843009213693951)) aNil))) (eCallP w_is_number (aCons (e2 gIx (eVar 0) (eC (.int 1))) aNil))))))
def bJo : SM := (sIf (tNotM (tTru (eCallP w_is_named (aCons (eVar 3) aNil)))) (sRaise "Refused" "at" (eVar 3)) sNext)
def w_joined : FM := bodyM 4 (sSeq (sFor (iSeq (eAs gTupD (aCons (eVar 0) (aCons (eVar 1) aNil)))) (gNm 3) bJo) (sSeq (sDrop (eCallP w_need_base (aCons (eVar 2) aNil))) (sRet (eAs gTupD (aCons (e2 gMod (e2 gAdd (e2 gMul (e2 gIx (eVar 0) (eC (.int 0))) (eCallP w_power_of (aCons (eVar 2) (aCons (e2 gIx (eVar 1) (eC (.int 1))) (aCons (eC (.int 2305843009213693951)) aNil))))) (e2 gIx (eVar 1) (eC (.int 0)))) (eC (.int 2305843009213693951))) (aCons (e2 gAdd (e2 gIx (eVar 0) (eC (.int 1))) (e2 gIx (eVar 1) (eC (.int 1)))) aNil))))))
def bSm : SM := (sPar 2 3 (aCons (e2 gMod (eAs gInt (aCons (e2 gAdd (eVar 2) (e2 gMul (e2 gAdd (eVar 4) (eC (.int 1))) (eVar 3))) aNil)) (eC (.int 2305843009213693951))) (aCons (e2 gMod (eAs gInt (aCons (e2 gMul (eVar 3) (eVar 1)) aNil)) (eC (.int 2305843009213693951))) aNil)))
def w_law_sum : FM := bodyM 5 (sSeq (sAsg (eAs gTupD (aCons (eC (.int 0)) (aCons (eC (.int 1)) aNil))) (gSeq 2 (gsCons (gNm 2) (gsCons (gNm 3) gsNil)))) (sSeq (sFor (iSeq (e1 gRevS (eVar 0))) (gNm 4) bSm) (sRet (eVar 2))))
/-! ### plain -/
theorem emod_l (a b m : Int) : (a % m * b) % m = (a * b) % m := by rw [Int.mul_emod, Int.emod_emod_of_dvd _ (Int.dvd_refl m), ← Int.mul_emod]
theorem emod_r (a b m : Int) : (a * (b % m)) % m = (a * b) % m := by rw [Int.mul_emod, Int.emod_emod_of_dvd _ (Int.dvd_refl m), ← Int.mul_emod]
theorem eadd_l (a b m : Int) : (a % m + b) % m = (a + b) % m := by rw [Int.add_emod, Int.emod_emod_of_dvd _ (Int.dvd_refl m), ← Int.add_emod]
theorem eadd_r (a b m : Int) : (a + b % m) % m = (a + b) % m := by rw [Int.add_emod, Int.emod_emod_of_dvd _ (Int.dvd_refl m), ← Int.add_emod]
theorem emod_pow (x y m : Int) : ∀ k : Nat, (x * (y % m) ^ k) % m = (x * y ^ k) % m
  | 0 => by simp
  | k + 1 => by
    rw [Int.pow_succ, Int.pow_succ, ← Int.mul_assoc, ← Int.mul_assoc, emod_r, ← emod_l, emod_pow x y m k, emod_l]
theorem sq_pow (q : Int) : ∀ m : Nat, (q * q) ^ m = q ^ (2 * m)
  | 0 => by simp
  | m + 1 => by
    rw [Int.pow_succ, sq_pow q m, show 2 * (m + 1) = 2 * m + 1 + 1 by omega, Int.pow_succ, Int.pow_succ, Int.mul_assoc]
/-- the octets as a number, each one more, by b -/
def hv (b : Int) (zs : List Int) : Int := zs.foldl (fun v z => v * b + z + 1) 0
def dg (b : Int) (zs : List Int) : Int := hv b zs % Pm
theorem hv_from (b : Int) : ∀ (zs : List Int) (v : Int), zs.foldl (fun v z => v * b + z + 1) v = v * b ^ zs.length + hv b zs
  | [], v => by simp [hv]
  | z :: zs, v => by
    unfold hv
    rw [List.foldl_cons, List.foldl_cons, hv_from b zs, hv_from b zs (0 * b + z + 1), List.length_cons, Int.pow_succ]
    generalize hv b zs = h
    generalize b ^ zs.length = q
    have : (v * b + z + 1) * q = v * (q * b) + (0 * b + z + 1) * q := by
      rw [Int.zero_mul, Int.zero_add, Int.add_assoc, Int.add_mul, Int.mul_assoc, Int.mul_comm b q]
    rw [this]
    omega
theorem hv_app (b : Int) (xs ys : List Int) : hv b (xs ++ ys) = hv b xs * b ^ ys.length + hv b ys := by
  have : hv b (xs ++ ys) = ys.foldl (fun v z => v * b + z + 1) (hv b xs) := by unfold hv; rw [List.foldl_append]
  rw [this, hv_from]
theorem hv_snoc (b : Int) (xs : List Int) (z : Int) : hv b (xs ++ [z]) = hv b xs * b + z + 1 := by
  unfold hv; rw [List.foldl_append]; rfl
theorem dg_app (b : Int) (xs ys : List Int) : dg b (xs ++ ys) = (dg b xs * (b ^ ys.length % Pm) + dg b ys) % Pm := by
  unfold dg
  rw [hv_app, eadd_r, ← eadd_l (hv b xs % Pm * (b ^ ys.length % Pm)), emod_r, emod_l, eadd_l]
theorem dg_nn (b : Int) (zs : List Int) : 0 ≤ dg b zs ∧ dg b zs < Pm := ⟨Int.emod_nonneg _ (by decide), Int.emod_lt_of_pos _ (by decide)⟩
def BaseOk (b : Int) : Prop := 1 ≤ b ∧ b < Pm
section
variable {μ : Mem} {d : D}
/-! ### need_base -/
def baseB : D → Bool
  | .int i => decide (1 ≤ i) && decide (i < Pm)
  | _ => false
theorem base_ok {b : Int} (h : BaseOk b) : callP w_need_base [.int b] μ = .ok (.int b) μ := by
  refine callP_ok (μ' := []) (body_ret (δ := [some (.int b)]) rfl ?_) rfl rfl
  have wb := w_bel (μ := []) (d := .int b) .int (m := 2305843009213693951)
  have e : belD 2305843009213693951 (.int b) = true := by
    obtain ⟨h1, h2⟩ := h
    simp only [belD, Bool.and_eq_true, decide_eq_true_eq]
    exact ⟨by omega, h2⟩
  rw [e] at wb
  have h0 : ¬ b = 0 := by have := h.1; omega
  simp [eVar_run, wb, h0]
theorem base_bad (hd : Pl d) (h : baseB d = false) : callP w_need_base [d] μ = .exc (refu d) μ := by
  refine callP_exc (μ' := []) (body_exc (δ := [some d]) (δ' := [some d]) rfl ?_) (hd.ls rfl) (by simpa [refu] using hd.ls rfl)
  have wb := w_bel (μ := []) hd (m := 2305843009213693951)
  cases e : belD 2305843009213693951 d with
  | false =>
    rw [e] at wb
    simp [eVar_run, hd.vo, wb, refu]
  | true =>
    rw [e] at wb
    cases hd with
    | @int i =>
      simp only [belD, Bool.and_eq_true, decide_eq_true_eq] at e
      have h0 : i = 0 := by
        simp only [baseB, Bool.and_eq_false_iff, decide_eq_false_iff_not] at h
        have := e.1; have := e.2
        rcases h with h | h
        · omega
        · exact absurd e.2 h
      subst h0
      simp [eVar_run, wb, refu]
    | _ => cases e
/-! ### power_of -/
abbrev slP (b n f q : Int) : Sv := [some (.int b), some (.int n), some (.int 2305843009213693951), some (.int f), some (.int q)]
theorem pow_loop (b : Int) : ∀ (k n : Nat) (f q : Int), n < 2 ^ k → 0 ≤ f → f < Pm → 0 ≤ q → q < Pm → ∃ q', whileS cPow bPow (k + 1) (slP b (n : Int) f q) [] = .nx (slP b 0 (f * q ^ n % Pm) q') []
  | k, n, f, q, hn, f0, f1, q0, q1 => by
    unfold whileS
    by_cases c : n = 0
    · subst c
      have hc : cPow (slP b ((0 : Nat) : Int) f q) [] = .ok false [] := by unfold cPow slP; simp [eVar_run]
      rw [hc, bindS_ok, if_neg Bool.false_ne_true]
      refine ⟨q, ?_⟩
      have : f * q ^ 0 % Pm = f := by rw [Int.pow_zero, Int.mul_one]; exact Int.emod_eq_of_lt f0 f1
      rw [this]
      rfl
    · have hc : cPow (slP b (n : Int) f q) [] = .ok true [] := by
        have hn0 : 0 < n := by omega
        unfold cPow slP
        simp [eVar_run, hn0]
      rw [hc, bindS_ok, if_pos rfl]
      cases k with
      | zero => simp at hn; omega
      | succ k =>
        have hq2 : ((n : Int) / 2) = ((n / 2 : Nat) : Int) := by omega
        have hq : (0 : Int) ≤ q * q % Pm ∧ q * q % Pm < Pm := ⟨Int.emod_nonneg _ (by decide), Int.emod_lt_of_pos _ (by decide)⟩
        have gm : gMul (.int q) (.int q) ([] : Mem) = some (.int (q * q)) := gMul_r (by omega) (by have : Pm = 2305843009213693951 := rfl; omega)
        have gf : gMul (.int f) (.int q) ([] : Mem) = some (.int (f * q)) := gMul_r (by omega) (by have : Pm = 2305843009213693951 := rfl; omega)
        have step : ∀ f', (∀ r : SM, (sSeq (sIf (tBl (e2 gEq (e2 gMod (eVar 1) (eC (.int 2))) (eC (.int 1)))) (sAsg (e2 gMod (e2 gMul (eVar 3) (eVar 4)) (eVar 2)) (gNm 3)) sNext) r) (slP b (n : Int) f q) [] = r (slP b (n : Int) f' q) []) → bPow (slP b (n : Int) f q) [] = .nx (slP b ((n / 2 : Nat) : Int) f' (q * q % Pm)) [] := fun f' h => by
          unfold bPow
          rw [h]
          unfold slP
          rw [← hq2]
          simp [eVar_run, gm, gMod_int, sAug, gFdv_int]
        by_cases o : n % 2 = 1
        · have o' : (n : Int) % 2 = 1 := by omega
          have hb := step (f * q % Pm) fun r => by
            unfold slP
            rw [seq_nx (δ1 := [some (.int b), some (.int (n : Int)), some (.int 2305843009213693951), some (.int (f * q % Pm)), some (.int q)]) (μ1 := []) (by simp [eVar_run, gMod_int, o', gf])]
          obtain ⟨q', ih⟩ := pow_loop b k (n / 2) (f * q % Pm) (q * q % Pm) (by rw [Nat.pow_succ] at hn; omega) (Int.emod_nonneg _ (by decide)) (Int.emod_lt_of_pos _ (by decide)) hq.1 hq.2
          refine ⟨q', ?_⟩
          rw [hb]
          simp only
          rw [ih]
          have e : f * q % Pm * (q * q % Pm) ^ (n / 2) % Pm = f * q ^ n % Pm := by
            rw [emod_pow, emod_l]
            have : q ^ n = q * (q * q) ^ (n / 2) := by
              have h2 : (q * q) ^ (n / 2) = q ^ (2 * (n / 2)) := sq_pow q (n / 2)
              rw [h2, Int.mul_comm, ← Int.pow_succ]
              congr 1
              omega
            rw [this, Int.mul_assoc]
          rw [e]
        · have o' : ¬ (n : Int) % 2 = 1 := by omega
          have hb := step f fun r => by
            unfold slP
            rw [seq_nx (δ1 := [some (.int b), some (.int (n : Int)), some (.int 2305843009213693951), some (.int f), some (.int q)]) (μ1 := []) (by simp [eVar_run, gMod_int, o'])]
          obtain ⟨q', ih⟩ := pow_loop b k (n / 2) f (q * q % Pm) (by rw [Nat.pow_succ] at hn; omega) f0 f1 hq.1 hq.2
          refine ⟨q', ?_⟩
          rw [hb]
          simp only
          rw [ih]
          have e : f * (q * q % Pm) ^ (n / 2) % Pm = f * q ^ n % Pm := by
            rw [emod_pow]
            have : q ^ n = (q * q) ^ (n / 2) := by
              have h2 : (q * q) ^ (n / 2) = q ^ (2 * (n / 2)) := sq_pow q (n / 2)
              rw [h2]
              congr 1
              omega
            rw [this]
          rw [e]
termination_by k => k
theorem pow_run {b : Int} (h : BaseOk b) {n : Nat} (hn : n < 2 ^ 199) : callP w_power_of [.int b, .int (n : Int), .int 2305843009213693951] μ = .ok (.int (b ^ n % Pm)) μ := by
  have hb : b % Pm = b := Int.emod_eq_of_lt (by have := h.1; omega) h.2
  obtain ⟨q', lp⟩ := pow_loop b 199 n 1 b hn (by decide) (by decide) (by have := h.1; omega) h.2
  rw [Int.one_mul] at lp
  have lp' : sWhile (fun _ _ => 200) cPow bPow (slP b (n : Int) 1 b) [] = .nx (slP b 0 (b ^ n % Pm) q') [] := lp
  refine callP_ok (μ' := []) (body_ret (δ := [some (.int b), some (.int (n : Int)), some (.int 2305843009213693951), none, none]) rfl ?_) rfl rfl
  rw [seq_nx (δ1 := slP b (n : Int) 1 b) (μ1 := []) (by
    have e1' : (1 : Int) % 2305843009213693951 = 1 := by decide
    unfold slP
    simp [eVar_run, gMod_int, e1', hb])]
  rw [seq_nx lp']
  unfold slP
  simp [eVar_run]
/-! ### digest_on, digest -/
theorem dig_run {b : Int} (h : BaseOk b) {v : Int} (v0 : 0 ≤ v ∧ v < Pm) (zs : List Int) : callP w_digest_on [.int v, oT zs, .int b] μ = .ok (.int ((v * b ^ zs.length + hv b zs) % Pm)) μ := by
  have gm : ∀ (a : Int) μ, gMul (.int a) (.int b) μ = some (.int (a * b)) := fun a μ => gMul_r (by have := h.1; omega) (by have := h.2; have : Pm = 2305843009213693951 := rfl; omega)
  obtain ⟨δ', μ', hl, ⟨o, rfl⟩, rfl⟩ := loopS_pre (e := D.int) (g := gNm 3) (b := bDig) (R := fun pre δ μ => (∃ o : Option D, δ = [some (.int ((v * b ^ pre.length + hv b pre) % Pm)), some (oT zs), some (.int b), o]) ∧ μ = []) zs (fun pre z post δ μ hm ⟨⟨o, e⟩, e2⟩ => by
    subst e e2
    refine ⟨[some (.int ((v * b ^ pre.length + hv b pre) % Pm)), some (oT zs), some (.int b), some (.int z)], [some (.int ((v * b ^ (pre ++ [z]).length + hv b (pre ++ [z])) % Pm)), some (oT zs), some (.int b), some (.int z)], [], [], rfl, .inl ?_, ⟨some (.int z), rfl⟩, rfl⟩
    have e : (v * b ^ (pre ++ [z]).length + hv b (pre ++ [z])) % Pm = ((v * b ^ pre.length + hv b pre) % Pm * b + z + 1) % Pm := by
      have h9 : ∀ X : Int, (X % Pm * b + z + 1) % Pm = (X * b + (z + 1)) % Pm := fun X => by rw [Int.add_assoc, ← eadd_l (X % Pm * b), emod_l, eadd_l]
      rw [h9, hv_snoc, List.length_append, List.length_singleton, Int.pow_succ]
      congr 1
      rw [Int.add_mul, Int.mul_assoc]
      omega
    rw [e]
    unfold bDig
    generalize (v * b ^ pre.length + hv b pre) % Pm = a
    generalize oT zs = t
    simp [eVar_run, gm, gMod_int]) (δ := [some (.int v), some (oT zs), some (.int b), none]) (μ := []) ⟨⟨none, by
      have : (v * b ^ ([] : List Int).length + hv b []) % Pm = v := by
        show (v * b ^ 0 + 0) % Pm = v
        rw [Int.pow_zero, Int.mul_one, Int.add_zero]
        exact Int.emod_eq_of_lt v0.1 v0.2
      rw [this]⟩, rfl⟩
  refine callP_ok (μ' := []) (body_ret (δ := [some (.int v), some (oT zs), some (.int b), none]) rfl ?_) (by rw [locBs, locB]; exact (pl_oT zs).ls rfl) rfl
  rw [seq_nx (δ1 := [some (.int ((v * b ^ zs.length + hv b zs) % Pm)), some (oT zs), some (.int b), o]) (μ1 := []) (by
    rw [sFor_run]
    have v1 : eVar 1 [some (.int v), some (oT zs), some (.int b), none] [] = .ok (oT zs) [] := rfl
    simp only [iSeq_run, v1, bind_ok, seqV_tup, bindS_ok]
    exact hl)]
  rfl
theorem dig0_run {b : Int} (h : BaseOk b) (zs : List Int) : callP w_digest_on [.int 0, oT zs, .int b] μ = .ok (.int (dg b zs)) μ := by
  rw [dig_run h ⟨by decide, by decide⟩]
  have : (0 * b ^ zs.length + hv b zs) % Pm = dg b zs := by rw [Int.zero_mul, Int.zero_add]; rfl
  rw [this]
theorem digest_run {b : Int} (h : BaseOk b) {zs : List Int} (hd : Oh zs d) (hz : Oc zs) : callP w_digest [d, .int b] μ = .ok (.int (dg b zs)) μ := by
  have vd := hd.pl.vo
  have nd := fun μ => hd.need (μ := μ) hz
  have bo := fun μ => base_ok (μ := μ) h
  have dr := fun μ => dig0_run (μ := μ) h zs
  have vz : ∀ μ, vOf (some (some (oT zs))) μ = .ok (oT zs) μ := fun _ => rfl
  refine callP_ok (μ' := []) (body_ret (δ := [some d, some (.int b), none]) rfl ?_) (hd.pl.ls rfl) rfl
  generalize oT zs = tz at *
  simp [eVar_run, vd, nd, bo, vz, dr]
theorem digest_exc {y : D} {x : Xn} (hd : Pl d) (hy : Pl y) (h : ∀ μ, callP w_need_octets [d] μ = .exc x μ) (hx : locBs false 0 (x.fs.map (·.2)) = true) : callP w_digest [d, y] μ = .exc x μ := by
  refine callP_exc (μ' := []) (body_exc (δ := [some d, some y, none]) (δ' := [some d, some y, none]) rfl ?_) (hd.ls (hy.ls rfl)) hx
  simp [eVar_run, hd.vo, h]
theorem digest_bad {y : D} {zs : List Int} (hd : Oh zs d) (hz : Oc zs) (hy : Pl y) (h : baseB y = false) : callP w_digest [d, y] μ = .exc (refu y) μ := by
  have vd := hd.pl.vo
  have nd := fun μ => hd.need (μ := μ) hz
  have bb := fun μ => base_bad (μ := μ) hy h
  have vz : ∀ μ, vOf (some (some (oT zs))) μ = .ok (oT zs) μ := fun _ => rfl
  refine callP_exc (μ' := []) (body_exc (δ := [some d, some y, none]) (δ' := [some d, some y, some (oT zs)]) rfl ?_) (hd.pl.ls (hy.ls rfl)) (by simpa [refu] using hy.ls rfl)
  generalize oT zs = tz at *
  simp [eVar_run, vd, hy.vo, nd, bb, vz]
/-! ### pairs -/
def namB (d : D) : Bool := isSeqD d && match itD d with
  | [x, y] => belD Pm x && numD y
  | _ => false
theorem nam_run (hd : Pl d) (hi : ∀ x ∈ itD d, Pl x) : callP w_is_named [d] μ = .ok (.bl (namB d)) μ := by
  have vd := hd.vo
  have ws := fun μ => w_seq (μ := μ) hd
  refine callP_ok (μ' := []) (body_ret (δ := [some d]) rfl ?_) (hd.ls rfl) rfl
  by_cases hs : isSeqD d = true
  · have ln : gLen [d] ([] : Mem) = some (.int (itD d).length) := gLen_D hs
    have sq : ∀ μ, seqOf μ d = some (itD d) := fun μ => by cases d <;> first | rfl | cases hs
    unfold namB
    rw [hs] at ws ⊢
    by_cases c : (itD d).length = 2
    · match e : itD d, c with
      | [x, y], _ =>
        rw [e] at ln
        have px : Pl x := hi x (by rw [e]; exact .head _)
        have py : Pl y := hi y (by rw [e]; exact .tail _ (.head _))
        have i0 : ∀ μ, gIx d (.int 0) μ = some x := fun μ => by
          have := ix_nat (k := 0) (sq μ)
          rw [e] at this
          exact this
        have i1 : ∀ μ, gIx d (.int 1) μ = some y := fun μ => by
          have := ix_nat (k := 1) (sq μ)
          rw [e] at this
          exact this
        have wx := fun μ => w_bel (μ := μ) px (m := 2305843009213693951)
        have wy := fun μ => w_num (μ := μ) py
        have l2 : (([x, y] : List D).length : Int) = 2 := rfl
        rw [l2] at ln
        cases hb : belD 2305843009213693951 x with
        | true =>
          rw [hb] at wx
          simp [eVar_run, vd, ws, ln, i0, i1, wx, wy, hb]
        | false =>
          rw [hb] at wx
          simp [eVar_run, vd, ws, ln, i0, i1, wx, hb]
    · have l2 : ¬ ((itD d).length : Int) = 2 := by omega
      have nf : (match itD d with | [x, y] => belD Pm x && numD y | _ => false) = false := by
        split
        · next x y e => rw [e] at c; exact absurd rfl c
        · rfl
      rw [nf]
      generalize ((itD d).length : Int) = nl at *
      simp [eVar_run, vd, ws, ln, l2]
  · rw [Bool.not_eq_true] at hs
    rw [hs] at ws
    have : namB d = false := by unfold namB; rw [hs]; rfl
    rw [this]
    simp [eVar_run, vd, ws]
/-- a pair handed: a digest and a length -/
inductive Ph (v n : Int) : D → Prop
  | t : Ph v n (.tup [.int v, .int n])
  | l : Ph v n (.lst [.int v, .int n])
theorem Ph.pl {v n : Int} (h : Ph v n d) : Pl d := by
  cases h
  · exact .tup rfl
  · exact .lst rfl
theorem Ph.its {v n : Int} (h : Ph v n d) : ∀ x ∈ itD d, Pl x := fun x hx => by
  have : itD d = [.int v, .int n] := by cases h <;> rfl
  rw [this] at hx
  simp only [List.mem_cons, List.not_mem_nil, or_false] at hx
  rcases hx with rfl | rfl <;> exact .int
theorem Ph.nam {v n : Int} (h : Ph v n d) (h1 : 0 ≤ v ∧ v < Pm) (h2 : 0 ≤ n) : namB d = true := by
  cases h <;> simp [namB, isSeqD, itD, belD, numD, h1, h2]
theorem Ph.ix0 {v n : Int} (h : Ph v n d) : gIx d (.int 0) μ = some (.int v) := by
  cases h <;> exact ix_nat (k := 0) (xs := [.int v, .int n]) rfl
theorem Ph.ix1 {v n : Int} (h : Ph v n d) : gIx d (.int 1) μ = some (.int n) := by
  cases h <;> exact ix_nat (k := 1) (xs := [.int v, .int n]) rfl
theorem jo_nam {a b c e : D} (ha : Pl e) (hi : ∀ x ∈ itD e, Pl x) (hn : namB e = true) : bJo [some a, some b, some c, some e] [] = .nx [some a, some b, some c, some e] [] := by
  have nr := nam_run (μ := []) ha hi
  rw [hn] at nr
  unfold bJo
  simp [eVar_run, ha.vo, nr]
theorem jo_bad {a b c e : D} (ha : Pl e) (hi : ∀ x ∈ itD e, Pl x) (hn : namB e = false) : bJo [some a, some b, some c, some e] [] = .exc (refu e) [some a, some b, some c, some e] [] := by
  have nr := nam_run (μ := []) ha hi
  rw [hn] at nr
  unfold bJo
  simp [eVar_run, ha.vo, nr, refu]
theorem jo_it {l r c : D} (hl : Pl l) (hr : Pl r) : (iSeq (eAs gTupD (aCons (eVar 0) (aCons (eVar 1) aNil)))) [some l, some r, some c, none] [] = .ok [l, r] [] := by
  simp [eVar_run, hl.vo, hr.vo, gTupD_run]
theorem joined_run {l r : D} {a m : Int} {n k : Nat} {b : Int} (hb : BaseOk b) (hl : Ph a (n : Int) l) (hr : Ph m (k : Int) r) (ha : 0 ≤ a ∧ a < Pm) (hm : 0 ≤ m ∧ m < Pm) (hk : k < 2 ^ 199) : callP w_joined [l, r, .int b] μ = .ok (.tup [.int ((a * (b ^ k % Pm) + m) % Pm), .int ((n + k : Nat) : Int)]) μ := by
  refine callP_ok (μ' := []) (body_ret (δ := [some l, some r, some (.int b), none]) rfl ?_) (hl.pl.ls (hr.pl.ls rfl)) rfl
  have lp : loopS (gNm 3) bJo [l, r] [some l, some r, some (.int b), none] [] = .nx [some l, some r, some (.int b), some r] [] := by
    rw [loopS_nx (δ1 := [some l, some r, some (.int b), some l]) (μ1 := []) rfl (jo_nam hl.pl hl.its (hl.nam ha (by omega)))]
    rw [loopS_nx (δ1 := [some l, some r, some (.int b), some r]) (μ1 := []) rfl (jo_nam hr.pl hr.its (hr.nam hm (by omega)))]
    rfl
  rw [seq_nx (by rw [sFor_run, jo_it hl.pl hr.pl, bindS_ok]; exact lp)]
  have bo := fun μ => base_ok (μ := μ) hb
  have pr := fun μ => pow_run (μ := μ) hb hk
  have i0 := fun μ => hl.ix0 (μ := μ)
  have i1 := fun μ => hl.ix1 (μ := μ)
  have j0 := fun μ => hr.ix0 (μ := μ)
  have j1 := fun μ => hr.ix1 (μ := μ)
  have vl := hl.pl.vo
  have vr := hr.pl.vo
  have q0 : 0 ≤ b ^ k % Pm := Int.emod_nonneg _ (by decide)
  have q1 : b ^ k % Pm < Pm := Int.emod_lt_of_pos _ (by decide)
  have gm : ∀ μ, gMul (.int a) (.int (b ^ k % Pm)) μ = some (.int (a * (b ^ k % Pm))) := fun μ => gMul_r (by omega) (by have : Pm = 2305843009213693951 := rfl; omega)
  rw [seq_nx (δ1 := [some l, some r, some (.int b), some r]) (μ1 := []) (by simp [eVar_run, bo])]
  have en : ((n + k : Nat) : Int) = (n : Int) + (k : Int) := by omega
  rw [en]
  generalize b ^ k % Pm = q at *
  simp [eVar_run, vl, vr, i0, i1, j0, j1, pr, gm, gMod_int, gTupD_run]
theorem joined_left {l r c : D} (hl : Pl l) (hr : Pl r) (hc : Pl c) (hi : ∀ x ∈ itD l, Pl x) (h : namB l = false) : callP w_joined [l, r, c] μ = .exc (refu l) μ := by
  refine callP_exc (μ' := []) (body_exc (δ := [some l, some r, some c, none]) (δ' := [some l, some r, some c, some l]) rfl ?_) (hl.ls (hr.ls (hc.ls rfl))) (by simpa [refu] using hl.ls rfl)
  rw [sSeq_run, sFor_run, jo_it hl hr, bindS_ok, loopS_exc (δ1 := [some l, some r, some c, some l]) (μ1 := []) rfl (jo_bad hl hi h)]
  rfl
theorem joined_right {l r c : D} (hl : Pl l) (hr : Pl r) (hc : Pl c) (hi : ∀ x ∈ itD l, Pl x) (hj : ∀ x ∈ itD r, Pl x) (h : namB l = true) (h2 : namB r = false) : callP w_joined [l, r, c] μ = .exc (refu r) μ := by
  refine callP_exc (μ' := []) (body_exc (δ := [some l, some r, some c, none]) (δ' := [some l, some r, some c, some r]) rfl ?_) (hl.ls (hr.ls (hc.ls rfl))) (by simpa [refu] using hr.ls rfl)
  rw [sSeq_run, sFor_run, jo_it hl hr, bindS_ok, loopS_nx (δ1 := [some l, some r, some c, some l]) (μ1 := []) rfl (jo_nam hl hi h), loopS_exc (δ1 := [some l, some r, some c, some r]) (μ1 := []) rfl (jo_bad hr hj h2)]
  rfl
theorem joined_base {l r c : D} (hl : Pl l) (hr : Pl r) (hc : Pl c) (hi : ∀ x ∈ itD l, Pl x) (hj : ∀ x ∈ itD r, Pl x) (h : namB l = true) (h2 : namB r = true) (h3 : baseB c = false) : callP w_joined [l, r, c] μ = .exc (refu c) μ := by
  have bb := fun μ => base_bad (μ := μ) hc h3
  refine callP_exc (μ' := []) (body_exc (δ := [some l, some r, some c, none]) (δ' := [some l, some r, some c, some r]) rfl ?_) (hl.ls (hr.ls (hc.ls rfl))) (by simpa [refu] using hc.ls rfl)
  have lp : loopS (gNm 3) bJo [l, r] [some l, some r, some c, none] [] = .nx [some l, some r, some c, some r] [] := by
    rw [loopS_nx (δ1 := [some l, some r, some c, some l]) (μ1 := []) rfl (jo_nam hl hi h), loopS_nx (δ1 := [some l, some r, some c, some r]) (μ1 := []) rfl (jo_nam hr hj h2)]
    rfl
  rw [seq_nx (by rw [sFor_run, jo_it hl hr, bindS_ok]; exact lp)]
  simp [eVar_run, hc.vo, bb]
/-! ### the law's own sum, from behind -/
theorem lsum_run {b : Int} (h : BaseOk b) (zs : List Int) : callP w_law_sum [oT zs, .int b] μ = .ok (.int (dg b zs)) μ := by
  obtain ⟨δ', μ', hl, ⟨o, rfl⟩, rfl⟩ := loopS_pre (e := D.int) (g := gNm 4) (b := bSm) (R := fun pre δ μ => (∃ o : Option D, δ = [some (oT zs), some (.int b), some (.int (dg b pre.reverse)), some (.int (b ^ pre.length % Pm)), o]) ∧ μ = []) zs.reverse (fun pre z post δ μ hm ⟨⟨o, e⟩, e2⟩ => by
    subst e e2
    refine ⟨[some (oT zs), some (.int b), some (.int (dg b pre.reverse)), some (.int (b ^ pre.length % Pm)), some (.int z)], [some (oT zs), some (.int b), some (.int (dg b (pre ++ [z]).reverse)), some (.int (b ^ (pre ++ [z]).length % Pm)), some (.int z)], [], [], rfl, .inl ?_, ⟨some (.int z), rfl⟩, rfl⟩
    have e : dg b (pre ++ [z]).reverse = (dg b pre.reverse + (z + 1) * (b ^ pre.length % Pm)) % Pm := by
      rw [List.reverse_append, List.reverse_singleton, dg_app, List.length_reverse]
      have h1 : dg b [z] = (z + 1) % Pm := by
        show (0 * b + z + 1) % Pm = _
        rw [Int.zero_mul, Int.zero_add]
      rw [h1, Int.add_comm, ← eadd_r (dg b pre.reverse), ← eadd_r (dg b pre.reverse) ((z + 1) * _), emod_l]
    have e2 : b ^ (pre ++ [z]).length % Pm = b ^ pre.length % Pm * b % Pm := by
      rw [List.length_append, List.length_singleton, Int.pow_succ, emod_l]
    have q0 : 0 ≤ b ^ pre.length % Pm := Int.emod_nonneg _ (by decide)
    have q1 : b ^ pre.length % Pm < Pm := Int.emod_lt_of_pos _ (by decide)
    have gm : ∀ (a : Int) μ, gMul (.int a) (.int (b ^ pre.length % Pm)) μ = some (.int (a * (b ^ pre.length % Pm))) := fun a μ => gMul_r (by omega) (by have : Pm = 2305843009213693951 := rfl; omega)
    have gb : ∀ (a : Int) μ, gMul (.int a) (.int b) μ = some (.int (a * b)) := fun a μ => gMul_r (by have := h.1; omega) (by have := h.2; have : Pm = 2305843009213693951 := rfl; omega)
    rw [e, e2]
    unfold bSm
    generalize b ^ pre.length % Pm = q at *
    generalize dg b pre.reverse = f at *
    generalize oT zs = t
    simp [eVar_run, gm, gb, gMod_int]) (δ := [some (oT zs), some (.int b), some (.int 0), some (.int 1), none]) (μ := []) ⟨⟨none, by
      have h1 : b ^ ([] : List Int).length % Pm = 1 := by rw [List.length_nil, Int.pow_zero]; rfl
      rw [h1]
      rfl⟩, rfl⟩
  rw [List.reverse_reverse] at hl
  have rv : gRevS (oT zs) ([] : Mem) = some (oT zs.reverse) := by
    show some (D.tup (zs.map D.int).reverse) = _
    rw [← List.map_reverse]
  refine callP_ok (μ' := []) (body_ret (δ := [some (oT zs), some (.int b), none, none, none]) rfl ?_) ((pl_oT zs).ls rfl) rfl
  rw [seq_nx (δ1 := [some (oT zs), some (.int b), some (.int 0), some (.int 1), none]) (μ1 := []) (by
    generalize oT zs = t
    simp [gTupD_run])]
  have it : (iSeq (e1 gRevS (eVar 0))) [some (oT zs), some (.int b), some (.int 0), some (.int 1), none] [] = .ok (zs.reverse.map D.int) [] := by
    have v0 : eVar 0 [some (oT zs), some (.int b), some (.int 0), some (.int 1), none] [] = .ok (oT zs) [] := rfl
    rw [iSeq_run, Kw.e1_run, v0, bind_ok, rv, oOf_some, bind_ok]
    rfl
  rw [seq_nx (by rw [sFor_run, it, bindS_ok]; exact hl)]
  rfl
end
end Kw

set_option Elab.async false
set_option linter.all false
set_option maxRecDepth 100000
/-! drawn octets, drawn bases, for all laws -/
namespace Kw
open PySem PySem.Spec PyProof.Rows L2
section
variable {μ : Mem} {l n' : Nat} {take : FM}
def eOct (take : FM) : EM := (eIfM (tBl (e2 gGt (eCallM take (aCons (eVar 0) (aCons (eC (.int 30)) aNil))) (eC (.int 0)))) (eCallM take (aCons (eVar 0) (aCons (eVar 2) aNil))) (eCallM take (aCons (eVar 0) (aCons (eC (.int 256)) aNil))))
def mOcts (take : FM) : FM := bodyM 5 (sSeq (sAsg (eAsM gNewL aNil) (gNm 3)) (sSeq (sFor (iRange1 (aCons (eCallM take (aCons (eVar 0) (aCons (e2 gAdd (eVar 1) (eC (.int 1))) aNil))) aNil)) (gNm 4) (sDrop (eMtL gAppend (eVar 3) (aCons (eOct take) aNil)))) (sRet (eAs gTuple (aCons (eVar 3) aNil)))))
theorem eoct_run (T : TakeOk n' take) {lt : Int} (h0 : 0 < lt) (h1 : lt ≤ 256) (hb : Bxn n' μ l) {o1 o3 o4 : Option D} : ∃ z μ', eOct take [some (.loc l), o1, some (.int lt), o3, o4] μ = .ok (.int z) μ' ∧ (0 ≤ z ∧ z < 256) ∧ Bxn n' μ' l ∧ Stay l μ μ' := by
  obtain ⟨r, μ1, t1, r0, r1, b1, s1⟩ := T (m := 30) hb (by omega) (by omega)
  unfold eOct
  by_cases c : 0 < r
  · obtain ⟨z, μ2, t2, z0, z1, b2, s2⟩ := T (m := lt) b1 (by omega) (by omega)
    exact ⟨z, μ2, by simp [eVar_run, t1, c, t2], ⟨z0, by omega⟩, b2, s1.trans s2⟩
  · obtain ⟨z, μ2, t2, z0, z1, b2, s2⟩ := T (m := 256) b1 (by omega) (by omega)
    exact ⟨z, μ2, by simp [eVar_run, t1, c, t2], ⟨z0, by omega⟩, b2, s1.trans s2⟩
theorem octs_draw (T : TakeOk n' take) {most : Nat} (hm : most ≤ 1000) {lt : Int} (h0 : 0 < lt) (h1 : lt ≤ 256) (hb : Bxn n' μ l) : ∃ zs μ', callM (mOcts take) [.loc l, .int (most : Int), .int lt] μ = .ok (oT zs) μ' ∧ Oc zs ∧ zs.length ≤ most ∧ Bxn n' μ' l ∧ Kp l μ μ' := by
  obtain ⟨k, hk⟩ : ∃ k, k = μ.length := ⟨_, rfl⟩
  have n1 : gNewL [] μ = some (.loc k, μ ++ [.lst []]) := by rw [hk]; rfl
  have b0 : Bxn n' (μ ++ [.lst []]) l := hb.app
  obtain ⟨n, μ1, t1, hn, b1, s1⟩ := T.nat (m := most + 1) b0 (by omega) (by omega)
  have em : ((most + 1 : Nat) : Int) = (most : Int) + 1 := by omega
  rw [em] at t1
  have kl : k ≠ l := by have := hb.lt; omega
  have k1 : μ1[k]? = some (.lst []) := by rw [s1.2 k kl, hk]; simp
  have kp1 : Kp l μ μ1 := (Kp.app l μ _).trans (Kp.of s1)
  obtain ⟨δ', μ2, hlp, ⟨o4, rfl⟩, b2, ⟨zs, hz1, hz2, hz3⟩, kp2⟩ := loopS_pre (e := fun (j : Nat) => D.int (j : Int)) (g := gNm 4) (b := (sDrop (eMtL gAppend (eVar 3) (aCons (eOct take) aNil)))) (R := fun pre δ μ2 => (∃ o4, δ = [some (.loc l), some (.int (most : Int)), some (.int lt), some (.loc k), o4]) ∧ Bxn n' μ2 l ∧ (∃ zs : List Int, μ2[k]? = some (.lst (zs.map D.int)) ∧ zs.length = pre.length ∧ Oc zs) ∧ Kp l μ μ2) (List.range n) (fun pre j post δ μ2 hm ⟨⟨o4, e⟩, b, ⟨zs, z1, z2, z3⟩, kp⟩ => by
    subst e
    have hpl : pre.length < n := by
      have := congrArg List.length hm
      simp at this
      omega
    obtain ⟨z, μ3, er, zb, b3, s3⟩ := eoct_run T h0 h1 b (o1 := some (.int (most : Int))) (o3 := some (.loc k)) (o4 := some (.int (j : Int)))
    have z1' : μ3[k]? = some (.lst (zs.map D.int)) := by rw [s3.2 k kl, z1]
    have ml := mtL_app (ma := aCons (eOct take) aNil) (mo := eVar 3) (δ := [some (.loc l), some (.int (most : Int)), some (.int lt), some (.loc k), some (.int (j : Int))]) (y := .int z) (by rfl) z1 (by simp [er]) z1' (by simp; omega)
    have kl3 : k < μ3.length := (List.getElem?_eq_some_iff.mp z1').1
    refine ⟨[some (.loc l), some (.int (most : Int)), some (.int lt), some (.loc k), some (.int (j : Int))], [some (.loc l), some (.int (most : Int)), some (.int lt), some (.loc k), some (.int (j : Int))], μ2, _, rfl, .inl (by rw [sDrop_run, ml]; rfl), ⟨_, rfl⟩, b3.set kl, ⟨zs ++ [z], by rw [List.getElem?_set_self kl3]; simp, by simp [z2], fun y hy => ?_⟩, (kp.trans (Kp.of s3)).set (by omega)⟩
    rcases List.mem_append.mp hy with h | h
    · exact z3 y h
    · rw [List.mem_singleton.mp h]; exact zb) (δ := [some (.loc l), some (.int (most : Int)), some (.int lt), some (.loc k), none]) (μ := μ1) ⟨⟨none, rfl⟩, b1, ⟨[], k1, rfl, fun _ h => nomatch h⟩, kp1⟩
  have rg := range1_run (mr := (aCons (eCallM take (aCons (eVar 0) (aCons (e2 gAdd (eVar 1) (eC (.int 1))) aNil))) aNil)) (δ := [some (.loc l), some (.int (most : Int)), some (.int lt), some (.loc k), none]) (μ := μ ++ [.lst []]) (μ1 := μ1) (n := n) (by simp [eVar_run, t1]) (by omega)
  have gt : gTuple [.loc k] μ2 = some (oT zs) := by simp [gTuple, lstOf, hz1]
  have run : (mOcts take) [.loc l, .int (most : Int), .int lt] μ = .ok (oT zs) μ2 := by
    refine body_ret (N := 5) (δ := [some (.loc l), some (.int (most : Int)), some (.int lt), none, none]) rfl ?_
    rw [seq_nx (δ1 := [some (.loc l), some (.int (most : Int)), some (.int lt), some (.loc k), none]) (μ1 := μ ++ [.lst []]) (by simp [n1])]
    rw [seq_nx (by rw [sFor_run, rg, bindS_ok]; exact hlp)]
    generalize oT zs = tz at *
    simp [eVar_run, gt]
  obtain ⟨μ3, h3, le3, same⟩ := callM_any run kp2.1
  exact ⟨zs, μ3, h3, hz3, by rw [hz2, List.length_range]; omega, b2.same (same l hb.lt), ⟨le3, fun i hi hne => by rw [same i hi]; exact kp2.2 i hi hne⟩⟩

def mBase (take : FM) : FM := bodyM 1 (sRet (eCallM (bodyM 2 (mPick take)) (aCons (eVar 0) (aCons (eAs gLstD (aCons (eC (.int 1)) (aCons (eC (.int 2)) (aCons (eC (.int 3)) (aCons (eC (.int 256)) (aCons (eC (.int 257)) (aCons (eC (.int 2305843009213693950)) (aCons (e2 gAdd (eC (.int 1)) (e2 gMul (eCallM take (aCons (eVar 0) (aCons (e2 gPow (eC (.int 10)) (eC (.int 6))) aNil))) (eC (.int 2305843)))) aNil)))))))) aNil))))
theorem base_draw (T : TakeOk n' take) (hb : Bxn n' μ l) : ∃ b μ', callM (mBase take) [.loc l] μ = .ok (.int b) μ' ∧ BaseOk b ∧ Bxn n' μ' l ∧ Stay l μ μ' := by
  obtain ⟨r, μ1, t1, r0, r1, b1, s1⟩ := T (m := 1000000) hb (by omega) (by omega)
  obtain ⟨y, μ2, p2, ym, b2, s2⟩ := pick_lst T (xs := [.int 1, .int 2, .int 3, .int 256, .int 257, .int 2305843009213693950, .int (1 + r * 2305843)]) b1 (by simp) (by simp)
  have hy : ∃ b, y = .int b ∧ BaseOk b := by
    simp only [List.mem_cons, List.not_mem_nil, or_false] at ym
    have pm : Pm = 2305843009213693951 := rfl
    rcases ym with e | e | e | e | e | e | e <;> exact ⟨_, e, by unfold BaseOk; omega⟩
  obtain ⟨b, rfl, hbo⟩ := hy
  have p6 : ∀ μ, gPow (.int 10) (.int 6) μ = some (.int 1000000) := fun _ => rfl
  have gm : ∀ μ, gMul (.int r) (.int 2305843) μ = some (.int (r * 2305843)) := fun μ => gMul_r (by omega) (by omega)
  refine ⟨b, μ2, callM_ok (body_ret (N := 1) (δ := [some (.loc l)]) rfl ?_) (s1.trans s2).1, hbo, b2, s1.trans s2⟩
  simp [eVar_run, p6, t1, gm, gLstD_run, p2]
theorem loopS_brk {α : Type} {e : α → D} {g : GM} {b : SM} {R : List α → Sv → Mem → Prop} {E : Sv → Mem → Prop} {all : List α} (st : ∀ pre a post δ μ, pre ++ a :: post = all → R pre δ μ → ∃ δ1 μ1, g (e a) δ μ = .nx δ1 μ1 ∧ ((∃ δ2 μ2, b δ1 μ1 = .nx δ2 μ2 ∧ R (pre ++ [a]) δ2 μ2) ∨ ∃ δ2 μ2, b δ1 μ1 = .bk δ2 μ2 ∧ E δ2 μ2)) :
    ∀ (xs done : List α) {δ : Sv} {μ : Mem}, done ++ xs = all → R done δ μ → ∃ δ' μ', loopS g b (xs.map e) δ μ = .nx δ' μ' ∧ (R all δ' μ' ∨ E δ' μ')
  | [], done, δ, μ, ha, h => ⟨δ, μ, rfl, .inl (by rw [List.append_nil] at ha; rw [← ha]; exact h)⟩
  | a :: xs, done, δ, μ, ha, h => by
    obtain ⟨δ1, μ1, h1, h2⟩ := st done a xs δ μ ha h
    rcases h2 with ⟨δ2, μ2, h2, h3⟩ | ⟨δ2, μ2, h2, h3⟩
    · obtain ⟨δ', μ', h4, h5⟩ := loopS_brk st xs (done ++ [a]) (by rw [List.append_assoc]; exact ha) h3
      exact ⟨δ', μ', by rw [List.map_cons, loopS_nx h1 h2, h4], h5⟩
    · refine ⟨δ2, μ2, ?_, .inr h3⟩
      rw [List.map_cons, loopS, h1]
      simp only [h2]
end
end Kw

set_option Elab.async false
set_option linter.all false
set_option maxRecDepth 100000
/-! instances that change: how fields, methods, new ones run -/
namespace Kw
open PySem PySem.Spec PyProof.Rows L2
section
variable {δ : Sv} {μ μ' : Mem} {cl : FM → List D → Mem → Out D} {m : FM} {cn mn c f : Str} {gD : List D → List D → List D} {mo mv : EM} {mr mk : AM} {tab : FlT} {l k : Nat} {fs : List (Str × D)} {d v : D}
@[simp] theorem eMeth_run : eMeth cl m cn mn gD mo mr mk δ μ = (mo δ μ).bind fun o μ1 => if isI cn mn μ1 o = true then (mr δ μ1).bind fun ds μ2 => (mk δ μ2).bind fun es μ3 => cl m (gD (o :: ds) es) μ3 else .stuck := rfl
@[simp] theorem eMake_run {fz : Bool} : eMake fz m cn gD mr mk δ μ = (mr δ μ).bind fun ds μ1 => (mk δ μ1).bind fun es μ2 => mkM fz cn μ2.length (m (gD (.loc μ2.length :: ds) es) (μ2 ++ [.ins cn []])) := rfl
@[simp] theorem gPos_run {a b : List D} : gPos a b = a := rfl
@[simp] theorem gPerm_run {a b : List D} {i : List Nat} : gPerm i a b = permL i (a ++ b) := rfl
@[simp] theorem sFldM_run : sFldM tab f mo mv δ μ = (mv δ μ).bindS δ fun v μ1 => (mo δ μ1).bindS δ fun o μ2 => match gFldSet tab f o v μ2 with
  | some μ3 => .nx δ μ3
  | none => .stuck := rfl
theorem isI_loc (h : μ[l]? = some (.ins c fs)) (hn : fs.lookup mn = none) : isI c mn μ (.loc l) = true := by
  simp [isI, insOf, h, hn]
theorem gFld_loc (h : μ[l]? = some (.ins c fs)) (ht : hasF tab c f = true) (hl : fs.lookup f = some d) : gFld tab f (.loc l) μ = some d := by
  simp [gFld, insOf, h, ht, hl]
theorem gFld_ins {ns : List Str} {xs : List D} (ht : hasF tab c f = true) (hl : (ns.zip xs).lookup f = some d) : gFld tab f (.ins c ns xs) μ = some d := by
  simp [gFld, insOf, ht, hl]
theorem gFldSet_loc (h : μ[l]? = some (.ins c fs)) (ht : hasF tab c f = true) (hl : fs.length < 1000) : gFldSet tab f (.loc l) v μ = some (μ.set l (.ins c (putD f v fs))) := by
  simp [gFldSet, h, ht, hl]
theorem sFldA_at {g : D → D → Mem → Option D} {y z : D} {fs2 : List (Str × D)} {μ2 : Mem} (ho : mo δ μ = .ok (.loc l) μ) (h : μ[l]? = some (.ins c fs)) (ht : hasF tab c f = true) (hf : fs.lookup f = some v) (hv : mv δ μ = .ok y μ2) (hg : g v y μ2 = some z) (h2 : μ2[l]? = some (.ins c fs2)) (hl : fs2.length < 1000) :
    sFldA tab f g mo mv δ μ = .nx δ (μ2.set l (.ins c (putD f z fs2))) := by
  unfold sFldA
  simp only [ho, bindS_ok, h, gFld_loc h ht hf, hv, gFldAug, hg, h2, ht, hl, and_self, if_true]
theorem mkM_loc (h : μ'.length = k + 1) : mkM false cn k (.ok .non μ') = .ok (.loc k) μ' := by
  unfold mkM
  simp only
  rw [if_neg Bool.false_ne_true]
  split
  · rw [← h, List.take_length]
  · rfl
theorem mkM_exc {fz : Bool} {x : Xn} : ∃ μ'', mkM fz cn k (.exc x μ') = .exc x μ'' ∧ (μ'' = μ'.take k ∨ μ'' = μ') := by
  unfold mkM
  simp only
  split
  · exact ⟨_, rfl, .inl rfl⟩
  · exact ⟨_, rfl, .inr rfl⟩
theorem body_nx {N : Nat} {ds : List D} {δ' : Sv} {m : SM} (hδ : ds.map some ++ List.replicate (N - ds.length) none = δ) (h : m δ μ = .nx δ' μ') : bodyM N m ds μ = .ok .non μ' := by
  unfold bodyM
  rw [hδ, h]
theorem callM_exc {ds : List D} {x : Xn} (h : m ds μ = .exc x μ) : callM m ds μ = .exc x μ := by
  unfold callM
  rw [h]
  simp only
  split
  · rw [List.take_length]
  · rfl
/-! slices -/
theorem cut_T {xs : List D} {b : Nat} (h : b ≤ xs.length) : Kw.cutD xs none (some (b : Int)) = xs.take b := by
  unfold Kw.cutD HT.sIx
  have e : ¬ (b : Int) < 0 := by omega
  simp only [e, if_false, List.drop_zero, Nat.sub_zero, Int.toNat_natCast]
  rw [Nat.min_eq_left h]
theorem cut_F {xs : List D} {b : Nat} : Kw.cutD xs (some (b : Int)) none = xs.drop b := by
  unfold Kw.cutD HT.sIx
  have e : ¬ (b : Int) < 0 := by omega
  simp only [e, if_false, Int.toNat_natCast]
  by_cases c : b ≤ xs.length
  · rw [Nat.min_eq_left c, List.take_of_length_le (by simp)]
  · rw [Nat.min_eq_right (by omega), List.drop_length, List.drop_eq_nil_of_le (by omega)]
    simp
theorem slT {xs : List D} {b : Nat} (h : b ≤ xs.length) (μ : Mem) : gSl (.tup xs) none (some (b : Int)) μ = some (.tup (xs.take b)) := by
  show some (D.tup (Kw.cutD xs none (some (b : Int)))) = _
  rw [cut_T h]
theorem slF {xs : List D} {b : Nat} (μ : Mem) : gSl (.tup xs) (some (b : Int)) none μ = some (.tup (xs.drop b)) := by
  show some (D.tup (Kw.cutD xs (some (b : Int)) none)) = _
  rw [cut_F]
end
end Kw

set_option Elab.async false
set_option linter.all false
set_option maxRecDepth 100000
/-! tables of sums modulo 257, for all laws that reach them -/
namespace Kw
open PySem PySem.Spec PyProof.Rows L2
def w_is_block : FM := bodyM 3 (sRet (eAndM (eCallP w_is_sequence (aCons (eVar 0) aNil)) (eAndM (e2 gEq (eAs gLen (aCons (eVar 0) aNil)) (eVar 1)) (eAs gAll (aCons (eLc (iSeq (eVar 0)) (gNm 2) tYesM (eCallP w_is_below (aCons (eVar 2) (aCons (eC (.int 257)) aNil))) [2]) aNil)))))
def w_product : FM := bodyM 4 (sRet (e2 gMod (eAs gSum (aCons (eLc (iZip2 (aCons (eVar 0) (aCons (eVar 1) aNil))) (gSeq 2 (gsCons (gNm 2) (gsCons (gNm 3) gsNil))) tYesM (e2 gMul (eVar 2) (eVar 3)) [2, 3]) aNil)) (eC (.int 257))))
def eFirstLen : EM := (eAs gLen (aCons (e2 gIx (eVar 0) (eC (.int 0))) aNil))
def tChk1 : TM := (tOrM (tNotM (tTru (eCallP w_is_sequence (aCons (eVar 0) aNil)))) (tOrM (tNotM (tBl (eChn gLe gLe (eC (.int 1)) (eAs gLen (aCons (eVar 0) aNil)) (eC (.int 8))))) (tNotM (tTru (eCallP w_is_sequence (aCons (e2 gIx (eVar 0) (eC (.int 0))) aNil))))))
def eBlks : EM := (eLc (iSeq (eVar 0)) (gNm 2) tYesM (eCallP w_is_block (aCons (eVar 2) (aCons (eVar 1) aNil))) [2])
def tChk2 : TM := (tOrM (tNotM (tBl (eChn gLe gLe (eC (.int 1)) (eVar 1) (eC (.int 12))))) (tNotM (tTru (eAs gAll (aCons eBlks aNil)))))
def eTups : EM := (eLc (iSeq (eVar 0)) (gNm 2) tYesM (eAs gTuple (aCons (eVar 2) aNil)) [2])
def w_check_table : FM := bodyM 3 (sSeq (sIf tChk1 (sRaise "Refused" "at" (eVar 0)) sNext) (sSeq (sAsg eFirstLen (gNm 1)) (sSeq (sIf tChk2 (sRaise "Refused" "at" (eVar 0)) sNext) (sRet (eAs gTuple (aCons eTups aNil))))))
def w_table_init (tab : FlT) : FM := bodyM 2 (sSeq (sFldM tab "rows" (eVar 0) (eCallP w_check_table (aCons (eVar 1) aNil))) (sSeq (sFldM tab "data" (eVar 0) (eAs gLen (aCons (e2 gIx (e1 (gFld tab "rows") (eVar 0)) (eC (.int 0))) aNil))) (sFldM tab "sums" (eVar 0) (eAs gLen (aCons (e1 (gFld tab "rows") (eVar 0)) aNil)))))
def w_table_eq (tab : FlT) : FM := bodyM 2 (sRet (eAndM (e1 (gIsiC "Table") (eVar 1)) (e2 gEq (e1 (gFld tab "rows") (eVar 0)) (e1 (gFld tab "rows") (eVar 1)))))
def w_need_many : FM := bodyM 2 (sSeq (sIf (tOrM (tNotM (tTru (eCallP w_is_below (aCons (eVar 0) (aCons (e2 gAdd (eVar 1) (eC (.int 1))) aNil))))) (tBl (e2 gEq (eVar 0) (eC (.int 0))))) (sRaise "Refused" "at" (eVar 0)) sNext) (sRet (eVar 0)))
def tPts : TM := (tOrM (tNotM (tTru (eCallP w_is_sequence (aCons (eVar 0) aNil)))) (tOrM (tNotM (tBl (eChn gLe gLe (eC (.int 1)) (eAs gLen (aCons (eVar 0) aNil)) (eC (.int 12))))) (tNotM (tTru (eCallP w_is_block (aCons (eVar 0) (aCons (eAs gLen (aCons (eVar 0) aNil)) aNil)))))))
def ePow : EM := (eLc (iZip2 (aCons (eVar 3) (aCons (eVar 0) aNil))) (gSeq 2 (gsCons (gNm 5) (gsCons (gNm 6) gsNil))) tYesM (e2 gMod (e2 gMul (eVar 5) (eVar 6)) (eC (.int 257))) [5, 6])
def bPts : SM := (sSeq (sDrop (eMtL gAppend (eVar 2) (aCons (eVar 3) aNil))) (sAsg (eAs gTuple (aCons ePow aNil)) (gNm 3)))
def w_points_table (tab : FlT) : FM := bodyM 7 (sSeq (sIf tPts (sRaise "Refused" "at" (eVar 0)) sNext) (sSeq (sAsg (eAsM gNewL aNil) (gNm 2)) (sSeq (sAsg (e2 gRepA (eAs gTupD (aCons (eC (.int 1)) aNil)) (eAs gLen (aCons (eVar 0) aNil))) (gNm 3)) (sSeq (sFor (iRange1 (aCons (eCallP w_need_many (aCons (eVar 1) (aCons (eC (.int 8)) aNil))) aNil)) (gNm 4) bPts) (sSeq (sFrz 2) (sRet (eMakeP (w_table_init tab) "Table" gPos (aCons (eVar 2) aNil) aNil)))))))
def eOddP : EM := (eLc (iRange1 (aCons (eCallP w_need_many (aCons (eVar 0) (aCons (eC (.int 12)) aNil))) aNil)) (gNm 2) tYesM (e2 gAdd (e2 gMul (eC (.int 2)) (eVar 2)) (eC (.int 1))) [2])
def w_power_table (tab : FlT) : FM := bodyM 3 (sRet (eCallP (w_points_table tab) (aCons eOddP (aCons (eVar 1) aNil))))
def eSums : EM := (eLc (iSeq (eVar 3)) (gNm 2) tYesM (eCallP w_product (aCons (eVar 2) (aCons (eVar 1) aNil))) [2])
def w_sums_of_cells (tab : FlT) : FM := bodyM 3 (sSeq (sIf (tNotM (tTru (eCallP w_is_block (aCons (eVar 1) (aCons (e1 (gFld tab "data") (eVar 0)) aNil))))) (sRaise "Refused" "at" (eVar 1)) sNext) (sRet (eAs gTuple (aCons (eLc (iSeq (e1 (gFld tab "rows") (eVar 0))) (gNm 2) tYesM (eCallP w_product (aCons (eVar 2) (aCons (eVar 1) aNil))) [2]) aNil))))
/-! ### blocks -/
def blkB (n : Nat) (d : D) : Bool := isSeqD d && (decide ((itD d).length = n) && (itD d).all (belD 257))
section
variable {μ : Mem} {d : D}
theorem seqOf_it (hs : isSeqD d = true) (μ : Mem) : seqOf μ d = some (itD d) := by cases d <;> first | rfl | cases hs
theorem seqV_it (hs : isSeqD d = true) : seqV d = some (itD d) := by cases d <;> first | rfl | cases hs
theorem all_run (es : List D) (f : D → Bool) (μ : Mem) : gAll [.lst (es.map fun e => D.bl (f e))] μ = some (.bl (es.all f)) := by
  simp only [gAll, lstOf_lst, boolsOf_map, List.all_map]
  rfl
theorem lc_seq {δ : Sv} {μ : Mem} {j i : Nat} {me : EM} {f : D → D} (hv : vOf (δ[j]?) μ = .ok d μ) (hs : isSeqD d = true) (hl : (itD d).length ≤ 1000000) (h : ∀ a ∈ itD d, me ((wipeD δ [i]).set i (some a)) μ = .ok (f a) μ) : eLc (iSeq (eVar j)) (gNm i) tYesM me [i] δ μ = .ok (.lst ((itD d).map f)) μ := by
  have e := lcL_map (e := id) (f := f) (me := me) (δ := wipeD δ [i]) (μ := μ) (i := i) (itD d) h
  rw [List.map_id] at e
  have hv' : eVar j δ μ = .ok d μ := by rw [eVar_run]; exact hv
  simp only [eLc_run, iSeq_run, hv', bind_ok, seqV_it hs, e]
  rw [if_pos (szN (by rw [List.length_map]; exact hl))]
theorem blk_run (hd : Pl d) (hi : ∀ x ∈ itD d, Pl x) (hl : (itD d).length ≤ 1000000) (n : Nat) : callP w_is_block [d, .int (n : Int)] μ = .ok (.bl (blkB n d)) μ := by
  have vd := hd.vo
  have ws := fun μ => w_seq (μ := μ) hd
  refine callP_ok (μ' := []) (body_ret (δ := [some d, some (.int (n : Int)), none]) rfl ?_) (hd.ls rfl) rfl
  by_cases hs : isSeqD d = true
  · have ln : ∀ μ, gLen [d] μ = some (.int (itD d).length) := fun μ => gLen_D hs
    have lc := lc_seq (δ := [some d, some (.int (n : Int)), none]) (μ := []) (j := 0) (i := 2) (me := (eCallP w_is_below (aCons (eVar 2) (aCons (eC (.int 257)) aNil)))) (f := fun x => .bl (belD 257 x)) (vd []) hs hl (fun a ha => by
      have wb := w_bel (μ := []) (hi a ha) (m := 257)
      have va := (hi a ha).vo
      simp [wipeD, eVar_run, va, wb])
    unfold blkB
    rw [hs] at ws ⊢
    by_cases c : (itD d).length = n
    · subst c
      have al := all_run (itD d) (belD 257) []
      generalize (itD d).map (fun x => D.bl (belD 257 x)) = bs at *
      generalize (itD d).all (belD 257) = ab at *
      generalize ((itD d).length : Int) = nl at *
      generalize (eLc (iSeq (eVar 0)) (gNm 2) tYesM (eCallP w_is_below (aCons (eVar 2) (aCons (eC (.int 257)) aNil))) [2]) = ee at *
      simp [eVar_run, vd, ws, ln, lc, al]
    · have c' : ¬ ((itD d).length : Int) = (n : Int) := by omega
      generalize ((itD d).length : Int) = nl at *
      simp [eVar_run, vd, ws, ln, c, c']
  · rw [Bool.not_eq_true] at hs
    rw [hs] at ws
    have : blkB n d = false := by unfold blkB; rw [hs]; rfl
    rw [this]
    simp [eVar_run, vd, ws]

/-! ### products -/
def Cells (a : List Int) : Prop := ∀ x ∈ a, 0 ≤ x ∧ x < 257
def prodI (a b : List Int) : Int := (List.zipWith (fun x y => x * y) a b).sum % 257
theorem sum_run (l : List Int) (μ : Mem) : gSum [.lst (l.map D.int)] μ = some (.int l.sum) := by simp only [gSum, lstOf_lst, intsOf_map]
theorem zip_mul {a b : List Int} (ha : Cells a) {δ : Sv} {μ : Mem} {i j : Nat} (hij : i ≠ j) (hi : i < δ.length) (hj : j < δ.length) :
    lcL (gSeq 2 (gsCons (gNm i) (gsCons (gNm j) gsNil))) tYesM (e2 gMul (eVar i) (eVar j)) δ (zipD (a.map D.int) (b.map D.int)) μ = .ok ((List.zipWith (fun x y => x * y) a b).map D.int) μ := by
  rw [lcL_zip2 (f := fun x y => D.int (x * y)) a b fun x hx y hy => by
    have v1 : eVar i ((δ.set i (some (.int x))).set j (some (.int y))) μ = .ok (.int x) μ := by
      unfold eVar
      rw [List.getElem?_set_ne (Ne.symm hij), List.getElem?_set_self hi]
    have v2 : eVar j ((δ.set i (some (.int x))).set j (some (.int y))) μ = .ok (.int y) μ := by
      unfold eVar
      rw [List.getElem?_set_self (by simpa using hj)]
    have g : gMul (.int x) (.int y) μ = some (.int (x * y)) := gMul_l (by have := ha x hx; omega) (by have := ha x hx; omega)
    simp [v1, v2, g]]
  rw [List.map_zipWith]
/-- a row of ints -/
theorem Oh.sq {zs : List Int} (h : Oh zs d) : seqV d = some (zs.map D.int) := by cases h <;> rfl
theorem Oh.it {zs : List Int} (h : Oh zs d) : itD d = zs.map D.int ∧ isSeqD d = true := by cases h <;> exact ⟨rfl, rfl⟩
theorem prod_run {x y : D} {a b : List Int} (hx : Oh a x) (hy : Oh b y) (ha : Cells a) (hl : a.length ≤ 1000) : callP w_product [x, y] μ = .ok (.int (prodI a b)) μ := by
  have vx := hx.pl.vo
  have vy := hy.pl.vo
  have sx := hx.sq
  have sy := hy.sq
  refine callP_ok (μ' := []) (body_ret (δ := [some x, some y, none, none]) rfl ?_) (hx.pl.ls (hy.pl.ls rfl)) rfl
  have lc : (eLc (iZip2 (aCons (eVar 0) (aCons (eVar 1) aNil))) (gSeq 2 (gsCons (gNm 2) (gsCons (gNm 3) gsNil))) tYesM (e2 gMul (eVar 2) (eVar 3)) [2, 3]) [some x, some y, none, none] [] = .ok (.lst ((List.zipWith (fun x y => x * y) a b).map D.int)) [] := by
    have c := zip_mul (b := b) ha (δ := [some x, some y, none, none]) (μ := []) (i := 2) (j := 3) (by decide) (by simp) (by simp)
    have hw : wipeD [some x, some y, none, none] [2, 3] = [some x, some y, none, none] := rfl
    have iz : iZip2 (aCons (eVar 0) (aCons (eVar 1) aNil)) [some x, some y, none, none] [] = .ok (zipD (a.map D.int) (b.map D.int)) [] := by simp [eVar_run, vx, vy, sx, sy]
    simp only [eLc_run, iz, bind_ok, hw, c]
    rw [if_pos (szN (by simp; omega))]
  have sm := sum_run (List.zipWith (fun x y => x * y) a b) []
  unfold prodI
  generalize (List.zipWith (fun x y => x * y) a b).sum = tot at *
  generalize (List.zipWith (fun x y => x * y) a b).map D.int = zs at *
  generalize (eLc (iZip2 (aCons (eVar 0) (aCons (eVar 1) aNil))) (gSeq 2 (gsCons (gNm 2) (gsCons (gNm 3) gsNil))) tYesM (e2 gMul (eVar 2) (eVar 3)) [2, 3]) = ee at *
  simp [lc, sm, gMod_int]
/-! ### check_table -/
/-- two levels of data -/
def Pv (d : D) : Prop := Pl d ∧ (∀ x ∈ itD d, Pl x) ∧ (itD d).length ≤ 1000000
def firD (d : D) : D := (itD d).headD .non
def tabB (d : D) : Bool := isSeqD d && (decide (1 ≤ (itD d).length ∧ (itD d).length ≤ 8) && (isSeqD (firD d) && (decide (1 ≤ (itD (firD d)).length ∧ (itD (firD d)).length ≤ 12) && (itD d).all (blkB (itD (firD d)).length))))
theorem chk1_run {o1 o2 : Option D} (hd : Pl d) (hp : ∀ x ∈ itD d, Pv x) : tChk1 [some d, o1, o2] [] = .ok (!(isSeqD d && (decide (1 ≤ (itD d).length ∧ (itD d).length ≤ 8) && isSeqD (firD d)))) [] := by
  have vd := hd.vo
  have ws := fun μ => w_seq (μ := μ) hd
  unfold tChk1
  by_cases hs : isSeqD d = true
  · have ln : ∀ μ, gLen [d] μ = some (.int (itD d).length) := fun μ => gLen_D hs
    rw [hs] at ws ⊢
    by_cases c : 1 ≤ (itD d).length ∧ (itD d).length ≤ 8
    · match e : itD d, c with
      | x :: xs, c =>
        have px := (hp x (by rw [e]; exact .head _)).1
        have ix : ∀ μ, gIx d (.int 0) μ = some x := fun μ => by
          have := ix_nat (k := 0) (seqOf_it hs μ)
          rw [e] at this
          exact this
        have wx := fun μ => w_seq (μ := μ) px
        have c1 : (1 : Int) ≤ ((x :: xs).length : Int) := by have := c.1; omega
        have c2 : ((x :: xs).length : Int) ≤ 8 := by have := c.2; omega
        have fx : firD d = x := by unfold firD; rw [e]; rfl
        rw [e] at ln
        rw [fx]
        generalize ((x :: xs).length : Int) = nl at *
        rw [decide_eq_true c]
        cases hx : isSeqD x <;> rw [hx] at wx <;> simp [eVar_run, vd, ws, ln, ix, wx, c1, c2]
      | [], c => exact absurd c.1 (by decide)
    · rw [decide_eq_false c]
      have c' : ¬ ((1 : Int) ≤ ((itD d).length : Int) ∧ ((itD d).length : Int) ≤ 8) := by omega
      generalize ((itD d).length : Int) = nl at *
      by_cases c1 : (1 : Int) ≤ nl
      · have c2 : ¬ nl ≤ 8 := fun h => c' ⟨c1, h⟩
        simp [eVar_run, vd, ws, ln, c1, c2]
      · simp [eVar_run, vd, ws, ln, c1]
  · rw [Bool.not_eq_true] at hs
    rw [hs] at ws ⊢
    simp [eVar_run, vd, ws]
theorem chk2_run {n : Nat} {o2 : Option D} (hd : Pl d) (hs : isSeqD d = true) (hp : ∀ x ∈ itD d, Pv x) (hl : (itD d).length ≤ 1000000) : tChk2 [some d, some (.int (n : Int)), o2] [] = .ok (!(decide (1 ≤ n ∧ n ≤ 12) && (itD d).all (blkB n))) [] := by
  have vd := hd.vo
  have lc := lc_seq (δ := [some d, some (.int (n : Int)), o2]) (μ := []) (j := 0) (i := 2) (me := (eCallP w_is_block (aCons (eVar 2) (aCons (eVar 1) aNil)))) (f := fun x => .bl (blkB n x)) (vd []) hs hl (fun a ha => by
    obtain ⟨p1, p2, p3⟩ := hp a ha
    have wb := blk_run (μ := []) p1 p2 p3 n
    have va := p1.vo
    simp [wipeD, eVar_run, va, wb])
  have al := all_run (itD d) (blkB n) []
  have lc' : eBlks [some d, some (.int (n : Int)), o2] [] = .ok (.lst ((itD d).map fun x => .bl (blkB n x))) [] := lc
  unfold tChk2
  generalize (itD d).map (fun x => D.bl (blkB n x)) = bs at *
  generalize (itD d).all (blkB n) = ab at *
  generalize eBlks = ee at *
  by_cases c : 1 ≤ n ∧ n ≤ 12
  · have c1 : (1 : Int) ≤ (n : Int) := by omega
    have c2 : (n : Int) ≤ 12 := by omega
    rw [decide_eq_true c]
    simp [eVar_run, c1, c2, lc', al]
  · rw [decide_eq_false c]
    have c' : ¬ ((1 : Int) ≤ (n : Int) ∧ (n : Int) ≤ 12) := by omega
    by_cases c1 : (1 : Int) ≤ (n : Int)
    · have c2 : ¬ (n : Int) ≤ 12 := fun h => c' ⟨c1, h⟩
      simp [eVar_run, c1, c2]
    · simp [eVar_run, c1]
theorem check_run (hd : Pl d) (hp : ∀ x ∈ itD d, Pv x) (hl : (itD d).length ≤ 1000000) : callP w_check_table [d] μ = if tabB d = true then .ok (.tup ((itD d).map fun x => .tup (itD x))) μ else .exc (refu d) μ := by
  have vd := hd.vo
  have k1 := chk1_run (o1 := none) (o2 := none) hd hp
  by_cases t1 : (isSeqD d && (decide (1 ≤ (itD d).length ∧ (itD d).length ≤ 8) && isSeqD (firD d))) = true
  · rw [t1] at k1
    simp only [Bool.and_eq_true, decide_eq_true_eq] at t1
    obtain ⟨hs, hc, hf⟩ := t1
    have ix : ∀ μ, gIx d (.int 0) μ = some (firD d) := fun μ => by
      have := ix_nat (k := 0) (seqOf_it hs μ)
      refine this.trans ?_
      unfold firD
      match itD d, hc with
      | x :: xs, _ => rfl
      | [], hc => exact absurd hc.1 (by decide)
    have lf : ∀ μ, gLen [firD d] μ = some (.int (itD (firD d)).length) := fun μ => gLen_D hf
    have fl : eFirstLen [some d, none, none] [] = .ok (.int (itD (firD d)).length) [] := by
      unfold eFirstLen
      simp [eVar_run, vd, ix, lf]
    have k2 := chk2_run (o2 := none) hd hs hp hl (n := (itD (firD d)).length)
    by_cases t2 : (decide (1 ≤ (itD (firD d)).length ∧ (itD (firD d)).length ≤ 12) && (itD d).all (blkB (itD (firD d)).length)) = true
    · rw [t2] at k2
      have tb : tabB d = true := by
        unfold tabB
        rw [hs, hf, decide_eq_true hc]
        simpa using t2
      rw [if_pos tb]
      simp only [Bool.and_eq_true] at t2
      have lc := lc_seq (δ := [some d, some (.int (itD (firD d)).length), none]) (μ := []) (j := 0) (i := 2) (me := (eAs gTuple (aCons (eVar 2) aNil))) (f := fun x => .tup (itD x)) (vd []) hs hl (fun a ha => by
        have va := (hp a ha).1.vo
        have sa : isSeqD a = true := by
          have := List.all_eq_true.mp t2.2 a ha
          unfold blkB at this
          rw [Bool.and_eq_true] at this
          exact this.1
        have gt : ∀ μ, gTuple [a] μ = some (.tup (itD a)) := fun μ => gTuple_D sa
        simp [wipeD, eVar_run, va, gt])
      have lc' : eTups [some d, some (.int (itD (firD d)).length), none] [] = .ok (.lst ((itD d).map fun x => .tup (itD x))) [] := lc
      have gt : ∀ xs : List D, gTuple [.lst xs] ([] : Mem) = some (.tup xs) := fun _ => rfl
      refine callP_ok (μ' := []) (body_ret (δ := [some d, none, none]) rfl ?_) (hd.ls rfl) ?_
      · generalize (itD d).map (fun x => D.tup (itD x)) = bs at *
        generalize ((itD (firD d)).length : Int) = nl at *
        generalize eTups = e1 at *
        generalize eFirstLen = e2 at *
        generalize tChk1 = t1 at *
        generalize tChk2 = t2 at *
        simp [k1, k2, fl, lc', gt]
      · rw [locB]
        exact locBs_all fun y hy => by
          obtain ⟨x, hx, rfl⟩ := List.mem_map.mp hy
          exact .tup (locBs_all (hp x hx).2.1)
    · rw [Bool.not_eq_true] at t2
      rw [t2] at k2
      have tb : ¬ tabB d = true := by
        unfold tabB
        rw [hs, hf, decide_eq_true hc]
        simpa using t2
      rw [if_neg tb]
      refine callP_exc (μ' := []) (body_exc (δ := [some d, none, none]) (δ' := [some d, some (.int (itD (firD d)).length), none]) rfl ?_) (hd.ls rfl) (by simpa [refu] using hd.ls rfl)
      generalize ((itD (firD d)).length : Int) = nl at *
      generalize eTups = e1 at *
      generalize eFirstLen = e2 at *
      generalize tChk1 = t1 at *
      generalize tChk2 = t2 at *
      simp [eVar_run, vd, k1, k2, fl, refu]
  · rw [Bool.not_eq_true] at t1
    rw [t1] at k1
    have tb : ¬ tabB d = true := by
      intro h
      unfold tabB at h
      simp only [Bool.and_eq_true] at h
      obtain ⟨a1, a2, a3, _⟩ := h
      rw [a1, a2, a3] at t1
      cases t1
    rw [if_neg tb]
    refine callP_exc (μ' := []) (body_exc (δ := [some d, none, none]) (δ' := [some d, none, none]) rfl ?_) (hd.ls rfl) (by simpa [refu] using hd.ls rfl)
    generalize tChk1 = t1 at *
    simp [eVar_run, vd, k1, refu]

/-! ### the table itself -/
def TabOkF (tab : FlT) : Prop := hasF tab "Table" "rows" = true ∧ hasF tab "Table" "data" = true ∧ hasF tab "Table" "sums" = true
/-- a table of these rows (as tuples) -/
def tabD (xs : List D) (n : Nat) : D := .ins "Table" ["rows", "data", "sums"] [.tup xs, .int (n : Int), .int (xs.length : Int)]
theorem tab_fld {tab : FlT} (T : TabOkF tab) {xs : List D} {n : Nat} (μ : Mem) : gFld tab "rows" (tabD xs n) μ = some (.tup xs) ∧ gFld tab "data" (tabD xs n) μ = some (.int (n : Int)) ∧ gFld tab "sums" (tabD xs n) μ = some (.int (xs.length : Int)) :=
  ⟨gFld_ins T.1 rfl, gFld_ins T.2.1 rfl, gFld_ins T.2.2 rfl⟩
theorem tab_vo {xs : List D} {n : Nat} (μ : Mem) : vOf (some (some (tabD xs n))) μ = .ok (tabD xs n) μ := rfl
theorem tab_lc {xs : List D} {n : Nat} (h : ∀ x ∈ xs, Pl x) : locB false 0 (tabD xs n) = true := by
  show (locB false 0 (.tup xs) && (locB false 0 (.int _) && (locB false 0 (.int _) && locBs false 0 []))) = true
  rw [show locB false 0 (.tup xs) = true by rw [locB]; exact locBs_all h]
  rfl
theorem init_ok {tab : FlT} (T : TabOkF tab) {xs : List D} {ys : List D} (hd : ∀ μ, callP w_check_table [d] μ = .ok (.tup xs) μ) (hv : Pl d) (hx : xs.head? = some (.tup ys)) :
    w_table_init tab [.loc 0, d] [.ins "Table" []] = .ok .non [.ins "Table" [("rows", .tup xs), ("data", .int (ys.length : Int)), ("sums", .int (xs.length : Int))]] := by
  obtain ⟨T1, T2, T3⟩ := T
  have s1 : gFldSet tab "rows" (.loc 0) (.tup xs) [.ins "Table" []] = some [.ins "Table" [("rows", .tup xs)]] := by rw [gFldSet_loc (fs := []) rfl T1 (by simp)]; rfl
  have s2 : ∀ v, gFldSet tab "data" (.loc 0) v [.ins "Table" [("rows", .tup xs)]] = some [.ins "Table" [("rows", .tup xs), ("data", v)]] := fun v => by rw [gFldSet_loc (fs := [("rows", .tup xs)]) rfl T2 (by simp)]; rfl
  have s3 : ∀ v w, gFldSet tab "sums" (.loc 0) v [.ins "Table" [("rows", .tup xs), ("data", w)]] = some [.ins "Table" [("rows", .tup xs), ("data", w), ("sums", v)]] := fun v w => by rw [gFldSet_loc (fs := [("rows", .tup xs), ("data", w)]) rfl T3 (by simp)]; rfl
  have f1 : gFld tab "rows" (.loc 0) [.ins "Table" [("rows", .tup xs)]] = some (.tup xs) := gFld_loc (fs := [("rows", .tup xs)]) rfl T1 rfl
  have f2 : ∀ v, gFld tab "rows" (.loc 0) [.ins "Table" [("rows", .tup xs), ("data", v)]] = some (.tup xs) := fun v => gFld_loc (fs := [("rows", .tup xs), ("data", v)]) rfl T1 rfl
  have ix : ∀ μ, gIx (.tup xs) (.int 0) μ = some (.tup ys) := fun μ => by
    have := ix_nat (k := 0) (xs := xs) (x := .tup xs) (μ := μ) rfl
    refine this.trans ?_
    rw [← List.head?_eq_getElem?, hx]
  have l1 : ∀ μ, gLen [.tup ys] μ = some (.int (ys.length : Int)) := fun _ => rfl
  have l2 : ∀ μ, gLen [.tup xs] μ = some (.int (xs.length : Int)) := fun _ => rfl
  refine body_nx (δ := [some (.loc 0), some d]) (δ' := [some (.loc 0), some d]) rfl ?_
  generalize (D.tup xs) = tx at *
  generalize (D.tup ys) = ty at *
  generalize (ys.length : Int) = ny at *
  generalize (xs.length : Int) = nx at *
  generalize [Ob.ins "Table" []] = M0 at *
  generalize [Ob.ins "Table" [("rows", tx)]] = M1 at *
  simp [eVar_run, hv.vo, hd, s1, f1, ix, l1, s2, f2, l2, s3]
theorem mk_ok {tab : FlT} (T : TabOkF tab) {xs : List D} {ys : List D} (hd : ∀ μ, callP w_check_table [d] μ = .ok (.tup xs) μ) (hv : Pl d) (hx : xs.head? = some (.tup ys)) (hp : ∀ x ∈ xs, Pl x) :
    mkP (w_table_init tab) "Table" gPos [d] [] μ = .ok (tabD xs ys.length) μ := by
  unfold mkP
  rw [show (locBs false 0 [d] && locBs false 0 []) = true by rw [hv.ls rfl]; rfl, if_pos rfl]
  show mkPe "Table" false μ (w_table_init tab [.loc 0, d] [.ins "Table" []]) = _
  rw [init_ok T hd hv hx]
  unfold mkPe
  simp only [List.getElem?_cons_zero]
  have hl : locBs false 0 ([(("rows" : Str), D.tup xs), ("data", D.int (ys.length : Int)), ("sums", D.int (xs.length : Int))].map (·.2)) = true := tab_lc (n := ys.length) hp
  rw [if_pos ⟨trivial, hl⟩]
  rfl
theorem mk_bad {tab : FlT} (hd : ∀ μ, callP w_check_table [d] μ = .exc (refu d) μ) (hv : Pl d) : mkP (w_table_init tab) "Table" gPos [d] [] μ = .exc (refu d) μ := by
  unfold mkP
  rw [show (locBs false 0 [d] && locBs false 0 []) = true by rw [hv.ls rfl]; rfl, if_pos rfl]
  show mkPe "Table" false μ (w_table_init tab [.loc 0, d] [.ins "Table" []]) = _
  have e : w_table_init tab [.loc 0, d] [.ins "Table" []] = .exc (refu d) [.ins "Table" []] := by
    refine body_exc (δ := [some (.loc 0), some d]) (δ' := [some (.loc 0), some d]) rfl ?_
    generalize [Ob.ins "Table" []] = M0 at *
    simp [eVar_run, hv.vo, hd]
  rw [e]
  unfold mkPe
  simp only
  rw [if_pos (by simpa [refu] using hv.ls rfl)]
/-- rows of cells -/
def RowsOk (n : Nat) (rs : List (List Int)) : Prop := (1 ≤ rs.length ∧ rs.length ≤ 8) ∧ (1 ≤ n ∧ n ≤ 12) ∧ ∀ r ∈ rs, r.length = n ∧ Cells r
/-- rows handed in -/
inductive Rh (rs : List (List Int)) : D → Prop
  | t {ds : List D} (h : Paired Oh rs ds) : Rh rs (.tup ds)
  | l {ds : List D} (h : Paired Oh rs ds) : Rh rs (.lst ds)
theorem paired_it : ∀ {rs : List (List Int)} {ds : List D}, Paired Oh rs ds → ds.map (fun x => D.tup (itD x)) = rs.map oT ∧ ∀ x ∈ ds, ∃ r ∈ rs, Oh r x
  | [], [], .nil => ⟨rfl, fun x h => absurd h (List.not_mem_nil)⟩
  | r :: rs, d :: ds, .cons h t => by
    obtain ⟨i1, i2⟩ := paired_it t
    refine ⟨by rw [List.map_cons, List.map_cons, i1, h.it.1], fun x hx => ?_⟩
    rcases List.mem_cons.mp hx with rfl | hx
    · exact ⟨r, .head _, h⟩
    · obtain ⟨r', m, o⟩ := i2 x hx
      exact ⟨r', .tail _ m, o⟩
theorem Rh.it {rs : List (List Int)} (h : Rh rs d) : isSeqD d = true ∧ Paired Oh rs (itD d) := by cases h <;> exact ⟨rfl, by assumption⟩
theorem oh_pv {r : List Int} (h : Oh r d) (hl : r.length ≤ 1000000) : Pv d := by
  refine ⟨h.pl, fun x hx => ?_, ?_⟩
  · rw [h.it.1] at hx
    obtain ⟨z, _, rfl⟩ := List.mem_map.mp hx
    exact .int
  · rw [h.it.1]; simpa using hl
theorem Rh.pv {rs : List (List Int)} (h : Rh rs d) (hl : ∀ r ∈ rs, r.length ≤ 1000000) : Pl d ∧ ∀ x ∈ itD d, Pv x := by
  obtain ⟨h1, h2⟩ := h.it
  have hp : ∀ x ∈ itD d, Pv x := fun x hx => by
    obtain ⟨r, m, o⟩ := (paired_it h2).2 x hx
    exact oh_pv o (hl r m)
  refine ⟨?_, hp⟩
  cases h with
  | t h => exact .tup (locBs_all fun x hx => (hp x hx).1)
  | l h => exact .lst (locBs_all fun x hx => (hp x hx).1)
theorem bel_cells {r : List Int} (h : Cells r) : (r.map D.int).all (belD 257) = true := List.all_eq_true.mpr fun x hx => by
  obtain ⟨z, hz, rfl⟩ := List.mem_map.mp hx
  obtain ⟨h1, h2⟩ := h z hz
  simp [belD, h1, h2]
theorem oh_blk {r : List Int} (h : Oh r d) (hc : Cells r) : blkB r.length d = true := by
  unfold blkB
  rw [h.it.1, h.it.2, bel_cells hc]
  simp
theorem Rh.tab {n : Nat} {rs : List (List Int)} (h : Rh rs d) (ok : RowsOk n rs) : tabB d = true := by
  obtain ⟨h1, h2⟩ := h.it
  obtain ⟨o1, o2, o3⟩ := ok
  have hl : (itD d).length = rs.length := by
    have := congrArg List.length (paired_it h2).1
    simpa using this
  have each : ∀ x ∈ itD d, isSeqD x = true ∧ (itD x).length = n ∧ blkB n x = true := fun x hx => by
    obtain ⟨r, m, o⟩ := (paired_it h2).2 x hx
    obtain ⟨e1, e2⟩ := o3 r m
    exact ⟨o.it.2, by rw [o.it.1, List.length_map]; exact e1, by rw [← e1]; exact oh_blk o e2⟩
  have hf : firD d ∈ itD d := by
    unfold firD
    match itD d, hl with
    | x :: xs, _ => exact .head _
    | [], hl => exact absurd hl (by simp; omega)
  obtain ⟨f1, f2, f3⟩ := each _ hf
  unfold tabB
  rw [h1, f1, f2, hl, decide_eq_true o1, decide_eq_true o2, List.all_eq_true.mpr fun x hx => (each x hx).2.2]
  rfl
theorem check_rows {n : Nat} {rs : List (List Int)} (h : Rh rs d) (ok : RowsOk n rs) : callP w_check_table [d] μ = .ok (.tup (rs.map oT)) μ := by
  obtain ⟨hp, hv⟩ := h.pv fun r hr => by have := (ok.2.2 r hr).1; have := ok.2.1; omega
  have hl : (itD d).length = rs.length := by
    have := congrArg List.length (paired_it h.it.2).1
    simpa using this
  rw [check_run hp hv (by have := ok.1; omega), if_pos (h.tab ok), (paired_it h.it.2).1]
abbrev tbl (rs : List (List Int)) (n : Nat) : D := tabD (rs.map oT) n
theorem make_rows {tab : FlT} (T : TabOkF tab) {n : Nat} {rs : List (List Int)} (h : Rh rs d) (ok : RowsOk n rs) : mkP (w_table_init tab) "Table" gPos [d] [] μ = .ok (tbl rs n) μ := by
  obtain ⟨hp, hv⟩ := h.pv fun r hr => by have := (ok.2.2 r hr).1; have := ok.2.1; omega
  match rs, ok, h with
  | r :: rs, ok, h =>
    have e := mk_ok (μ := μ) T (ys := r.map D.int) (fun μ => check_rows (μ := μ) h ok) hp rfl (fun x hx => by
      obtain ⟨z, _, rfl⟩ := List.mem_map.mp hx
      exact pl_oT z)
    rw [List.length_map, (ok.2.2 r (.head _)).1] at e
    exact e
  | [], ok, h => exact absurd ok.1.1 (by decide)
theorem make_bad {tab : FlT} (hd : Pl d) (hp : ∀ x ∈ itD d, Pv x) (hl : (itD d).length ≤ 1000000) (h : tabB d = false) : mkP (w_table_init tab) "Table" gPos [d] [] μ = .exc (refu d) μ :=
  mk_bad (fun μ => by rw [check_run hd hp hl, h, if_neg Bool.false_ne_true]) hd
/-! ### need_many -/
def manyB (m : Int) : D → Bool
  | .int i => decide (1 ≤ i) && decide (i ≤ m)
  | _ => false
theorem many_ok {i m : Int} (h : 1 ≤ i ∧ i ≤ m) : callP w_need_many [.int i, .int m] μ = .ok (.int i) μ := by
  refine callP_ok (μ' := []) (body_ret (δ := [some (.int i), some (.int m)]) rfl ?_) rfl rfl
  have wb := w_bel (μ := []) (d := .int i) .int (m := m + 1)
  have e : belD (m + 1) (.int i) = true := by simp only [belD, Bool.and_eq_true, decide_eq_true_eq]; omega
  rw [e] at wb
  have h0 : ¬ i = 0 := by omega
  simp [eVar_run, wb, h0]
theorem many_bad {m : Int} (hd : Pl d) (h : manyB m d = false) : callP w_need_many [d, .int m] μ = .exc (refu d) μ := by
  refine callP_exc (μ' := []) (body_exc (δ := [some d, some (.int m)]) (δ' := [some d, some (.int m)]) rfl ?_) (hd.ls rfl) (by simpa [refu] using hd.ls rfl)
  have wb := w_bel (μ := []) hd (m := m + 1)
  cases e : belD (m + 1) d with
  | false =>
    rw [e] at wb
    simp [eVar_run, hd.vo, wb, refu]
  | true =>
    rw [e] at wb
    cases hd with
    | @int i =>
      simp only [belD, Bool.and_eq_true, decide_eq_true_eq] at e
      have h0 : i = 0 := by
        simp only [manyB, Bool.and_eq_false_iff, decide_eq_false_iff_not] at h
        have := e.1; have := e.2
        omega
      subst h0
      simp [eVar_run, wb, refu]
    | _ => cases e

/-! ### powers of points -/
def powRow (ps : List Int) : Nat → List Int
  | 0 => List.replicate ps.length 1
  | i + 1 => List.zipWith (fun c p => c * p % 257) (powRow ps i) ps
def pows (ps : List Int) (k : Nat) : List (List Int) := (List.range k).map (powRow ps)
theorem powRow_len (ps : List Int) : ∀ i, (powRow ps i).length = ps.length
  | 0 => by simp [powRow]
  | i + 1 => by simp [powRow, powRow_len ps i]
theorem zipW_cells (xs ys : List Int) : Cells (List.zipWith (fun c p => c * p % 257) xs ys) := fun x hx => by
  rw [← List.map_uncurry_zip_eq_zipWith] at hx
  obtain ⟨p, _, rfl⟩ := List.mem_map.mp hx
  exact ⟨Int.emod_nonneg _ (by decide), Int.emod_lt_of_pos _ (by decide)⟩
theorem powRow_cells (ps : List Int) : ∀ i, Cells (powRow ps i)
  | 0 => fun x hx => by rw [List.eq_of_mem_replicate hx]; omega
  | i + 1 => zipW_cells _ _
theorem pows_ok {ps : List Int} {k : Nat} (h : 1 ≤ ps.length ∧ ps.length ≤ 12) (hk : 1 ≤ k ∧ k ≤ 8) : RowsOk ps.length (pows ps k) := by
  refine ⟨by simpa [pows] using hk, h, fun r hr => ?_⟩
  obtain ⟨i, _, rfl⟩ := List.mem_map.mp hr
  exact ⟨powRow_len ps i, powRow_cells ps i⟩
theorem paired_map (f : List Int → D) (hf : ∀ r, Oh r (f r)) : ∀ rs : List (List Int), Paired Oh rs (rs.map f)
  | [] => .nil
  | r :: rs => .cons (hf r) (paired_map f hf rs)
/-- [c * p % 257 for c, p in zip(row, ps)] -/
theorem zip_pow {a b : List Int} (ha : Cells a) {δ : Sv} {μ : Mem} {i j : Nat} (hij : i ≠ j) (hi : i < δ.length) (hj : j < δ.length) :
    lcL (gSeq 2 (gsCons (gNm i) (gsCons (gNm j) gsNil))) tYesM (e2 gMod (e2 gMul (eVar i) (eVar j)) (eC (.int 257))) δ (zipD (a.map D.int) (b.map D.int)) μ = .ok ((List.zipWith (fun x y => x * y % 257) a b).map D.int) μ := by
  rw [lcL_zip2 (f := fun x y => D.int (x * y % 257)) a b fun x hx y hy => by
    have v1 : eVar i ((δ.set i (some (.int x))).set j (some (.int y))) μ = .ok (.int x) μ := by
      unfold eVar
      rw [List.getElem?_set_ne (Ne.symm hij), List.getElem?_set_self hi]
    have v2 : eVar j ((δ.set i (some (.int x))).set j (some (.int y))) μ = .ok (.int y) μ := by
      unfold eVar
      rw [List.getElem?_set_self (by simpa using hj)]
    have g : gMul (.int x) (.int y) μ = some (.int (x * y)) := gMul_l (by have := ha x hx; omega) (by have := ha x hx; omega)
    simp [v1, v2, g, gMod_int]]
  rw [List.map_zipWith]
def ptsB (d : D) : Bool := isSeqD d && (decide (1 ≤ (itD d).length ∧ (itD d).length ≤ 12) && blkB (itD d).length d)
theorem pts_run {o1 o2 o3 o4 o5 o6 : Option D} (hd : Pl d) (hi : ∀ x ∈ itD d, Pl x) (hl : (itD d).length ≤ 1000000) : tPts [some d, o1, o2, o3, o4, o5, o6] [] = .ok (!ptsB d) [] := by
  have vd := hd.vo
  have ws := fun μ => w_seq (μ := μ) hd
  unfold tPts ptsB
  by_cases hs : isSeqD d = true
  · have ln : ∀ μ, gLen [d] μ = some (.int (itD d).length) := fun μ => gLen_D hs
    have bk := fun μ => blk_run (μ := μ) hd hi hl (itD d).length
    rw [hs] at ws ⊢
    by_cases c : 1 ≤ (itD d).length ∧ (itD d).length ≤ 12
    · have c1 : (1 : Int) ≤ ((itD d).length : Int) := by omega
      have c2 : ((itD d).length : Int) ≤ 12 := by omega
      rw [decide_eq_true c]
      generalize blkB (itD d).length d = bb at *
      generalize ((itD d).length : Int) = nl at *
      simp [eVar_run, vd, ws, ln, c1, c2, bk]
    · rw [decide_eq_false c]
      have c' : ¬ ((1 : Int) ≤ ((itD d).length : Int) ∧ ((itD d).length : Int) ≤ 12) := by omega
      generalize ((itD d).length : Int) = nl at *
      by_cases c1 : (1 : Int) ≤ nl
      · have c2 : ¬ nl ≤ 12 := fun h => c' ⟨c1, h⟩
        simp [eVar_run, vd, ws, ln, c1, c2]
      · simp [eVar_run, vd, ws, ln, c1]
  · rw [Bool.not_eq_true] at hs
    rw [hs] at ws ⊢
    simp [eVar_run, vd, ws]
theorem oh_pts {ps : List Int} (h : Oh ps d) (hc : Cells ps) (hl : 1 ≤ ps.length ∧ ps.length ≤ 12) : ptsB d = true := by
  unfold ptsB
  rw [h.it.2, h.it.1, List.length_map, decide_eq_true hl, oh_blk h hc]
  rfl
theorem points_ok {tab : FlT} (T : TabOkF tab) {ps : List Int} {k : Nat} (h : Oh ps d) (hc : Cells ps) (hl : 1 ≤ ps.length ∧ ps.length ≤ 12) (hk : 1 ≤ k ∧ k ≤ 8) : callP (w_points_table tab) [d, .int (k : Int)] μ = .ok (tbl (pows ps k) ps.length) μ := by
  have vd := h.pl.vo
  obtain ⟨q1, q2, q3⟩ := oh_pv h (by omega)
  have tp := pts_run (o1 := some (.int (k : Int))) (o2 := none) (o3 := none) (o4 := none) (o5 := none) (o6 := none) q1 q2 q3
  rw [oh_pts h hc hl] at tp
  have ln : ∀ μ, gLen [d] μ = some (.int (ps.length : Int)) := fun μ => h.len
  have nm := fun μ => many_ok (μ := μ) (i := (k : Int)) (m := 8) (by omega)
  have n1 : gNewL [] ([] : Mem) = some (.loc 0, [.lst []]) := rfl
  have rp : ∀ μ, gRepA (.tup [.int 1]) (.int (ps.length : Int)) μ = some (oT (powRow ps 0)) := fun μ => by
    rw [gRepA_run (by omega) (by omega) (by simp)]
    have : ((ps.length : Int)).toNat = ps.length := by omega
    rw [this]
    congr 2
    simp [powRow]
  have sq := h.sq
  obtain ⟨δ', μ', hlp, ⟨o4, rfl⟩, rfl⟩ := loopS_pre (e := fun (j : Nat) => D.int (j : Int)) (g := gNm 4) (b := bPts) (R := fun pre δ μ => (∃ o4, δ = [some d, some (.int (k : Int)), some (.loc 0), some (oT (powRow ps pre.length)), o4, none, none]) ∧ μ = [.lst ((List.range pre.length).map fun i => oT (powRow ps i))]) (List.range k) (fun pre j post δ μ hm ⟨⟨o4, e⟩, e2⟩ => by
    subst e e2
    have hpl : pre.length < k := by
      have := congrArg List.length hm
      simp at this
      omega
    refine ⟨[some d, some (.int (k : Int)), some (.loc 0), some (oT (powRow ps pre.length)), some (.int (j : Int)), none, none], [some d, some (.int (k : Int)), some (.loc 0), some (oT (powRow ps (pre ++ [j]).length)), some (.int (j : Int)), none, none], _, _, rfl, .inl ?_, ⟨some (.int (j : Int)), rfl⟩, rfl⟩
    have el : (pre ++ [j]).length = pre.length + 1 := by simp
    rw [el]
    have ml := mtL_app (ma := aCons (eVar 3) aNil) (mo := eVar 2) (δ := [some d, some (.int (k : Int)), some (.loc 0), some (oT (powRow ps pre.length)), some (.int (j : Int)), none, none]) (μ := [.lst ((List.range pre.length).map fun i => oT (powRow ps i))]) (l := 0) (y := oT (powRow ps pre.length)) (by rfl) rfl rfl rfl (by simp; omega)
    unfold bPts
    rw [seq_nx (δ1 := [some d, some (.int (k : Int)), some (.loc 0), some (oT (powRow ps pre.length)), some (.int (j : Int)), none, none]) (μ1 := [.lst ((List.range (pre.length + 1)).map fun i => oT (powRow ps i))]) (by
      rw [sDrop_run, ml, List.range_succ, List.map_append]
      rfl)]
    generalize [Ob.lst ((List.range (pre.length + 1)).map fun i => oT (powRow ps i))] = M at *
    have zc := zip_pow (b := ps) (powRow_cells ps pre.length) (δ := [some d, some (.int (k : Int)), some (.loc 0), some (oT (powRow ps pre.length)), some (.int (j : Int)), none, none]) (μ := M) (i := 5) (j := 6) (by decide) (by simp) (by simp)
    have ep : ePow [some d, some (.int (k : Int)), some (.loc 0), some (oT (powRow ps pre.length)), some (.int (j : Int)), none, none] M = .ok (oL (powRow ps (pre.length + 1))) M := by
      have sr : seqV (oT (powRow ps pre.length)) = some ((powRow ps pre.length).map D.int) := rfl
      have vr : ∀ μ, vOf (some (some (oT (powRow ps pre.length)))) μ = .ok (oT (powRow ps pre.length)) μ := fun _ => rfl
      have iz : iZip2 (aCons (eVar 3) (aCons (eVar 0) aNil)) [some d, some (.int (k : Int)), some (.loc 0), some (oT (powRow ps pre.length)), some (.int (j : Int)), none, none] M = .ok (zipD ((powRow ps pre.length).map D.int) (ps.map D.int)) M := by
        generalize hr : oT (powRow ps pre.length) = tr at *
        simp [eVar_run, vd, vr, sr, sq]
      have hw : wipeD [some d, some (.int (k : Int)), some (.loc 0), some (oT (powRow ps pre.length)), some (.int (j : Int)), none, none] [5, 6] = [some d, some (.int (k : Int)), some (.loc 0), some (oT (powRow ps pre.length)), some (.int (j : Int)), none, none] := rfl
      unfold ePow
      simp only [eLc_run, iz, bind_ok, hw, zc]
      rw [if_pos (szN (by simp; omega))]
      rfl
    have gt : ∀ r, gTuple [oL r] M = some (oT r) := fun _ => rfl
    generalize ePow = ep' at *
    generalize oT (powRow ps pre.length) = t1 at *
    generalize powRow ps (pre.length + 1) = t2 at *
    simp [ep, gt]) (δ := [some d, some (.int (k : Int)), some (.loc 0), some (oT (powRow ps 0)), none, none, none]) (μ := [.lst []]) ⟨⟨none, rfl⟩, rfl⟩
  rw [List.length_range] at hlp
  have it : (iRange1 (aCons (eCallP w_need_many (aCons (eVar 1) (aCons (eC (.int 8)) aNil))) aNil)) [some d, some (.int (k : Int)), some (.loc 0), some (oT (powRow ps 0)), none, none, none] [.lst []] = .ok ((List.range k).map fun (j : Nat) => D.int (j : Int)) [.lst []] := range1_run (by
    generalize oT (powRow ps 0) = t0 at *
    simp [eVar_run, nm]) (by omega)
  have frz : (sFrz 2) [some d, some (.int (k : Int)), some (.loc 0), some (oT (powRow ps k)), o4, none, none] [.lst ((List.range k).map fun i => oT (powRow ps i))] = .nx [some d, some (.int (k : Int)), some (.lst ((pows ps k).map oT)), some (oT (powRow ps k)), o4, none, none] [.gone] := by
    unfold sFrz pows
    rw [List.map_map]
    rfl
  have mk := fun μ => make_rows (μ := μ) T (.l (paired_map oT (fun r => .t) (pows ps k))) (pows_ok hl hk)
  refine callP_ok (μ' := [.gone]) (body_ret (δ := [some d, some (.int (k : Int)), none, none, none, none, none]) rfl ?_) (h.pl.ls rfl) (tab_lc fun x hx => by
    obtain ⟨z, _, rfl⟩ := List.mem_map.mp hx
    exact pl_oT z)
  rw [seq_nx (δ1 := [some d, some (.int (k : Int)), none, none, none, none, none]) (μ1 := []) (by
    generalize tPts = tt at *
    simp [tp])]
  rw [seq_nx (δ1 := [some d, some (.int (k : Int)), some (.loc 0), none, none, none, none]) (μ1 := [.lst []]) (by simp [n1])]
  rw [seq_nx (δ1 := [some d, some (.int (k : Int)), some (.loc 0), some (oT (powRow ps 0)), none, none, none]) (μ1 := [.lst []]) (by
    generalize oT (powRow ps 0) = t0 at *
    simp [eVar_run, vd, ln, gTupD_run, rp])]
  rw [seq_nx (by rw [sFor_run, it, bindS_ok]; exact hlp)]
  rw [seq_nx frz]
  generalize hr : (pows ps k).map oT = rr at *
  generalize oT (powRow ps k) = t0 at *
  have vl : ∀ μ, vOf (some (some (.lst rr))) μ = .ok (.lst rr) μ := fun _ => rfl
  show ((eMakeP (w_table_init tab) "Table" gPos (aCons (eVar 2) aNil) aNil) _ _).bindS _ _ = _
  have em : (eMakeP (w_table_init tab) "Table" gPos (aCons (eVar 2) aNil) aNil) [some d, some (.int (k : Int)), some (.lst rr), some t0, o4, none, none] [.gone] = .ok (tbl (pows ps k) ps.length) [.gone] := by
    unfold eMakeP
    simp [eVar_run, vl, mk]
  rw [em]
  rfl

theorem points_bad {tab : FlT} {e : D} (hd : Pl d) (he : Pl e) (hi : ∀ x ∈ itD d, Pl x) (hl : (itD d).length ≤ 1000000) (h : ptsB d = false) : callP (w_points_table tab) [d, e] μ = .exc (refu d) μ := by
  have tp := pts_run (o1 := some e) (o2 := none) (o3 := none) (o4 := none) (o5 := none) (o6 := none) hd hi hl
  rw [h] at tp
  refine callP_exc (μ' := []) (body_exc (δ := [some d, some e, none, none, none, none, none]) (δ' := [some d, some e, none, none, none, none, none]) rfl ?_) (hd.ls (he.ls rfl)) (by simpa [refu] using hd.ls rfl)
  generalize tPts = tt at *
  simp [eVar_run, hd.vo, tp, refu]
theorem points_many {tab : FlT} {ps : List Int} {e : D} (hd : Oh ps d) (hc : Cells ps) (hl : 1 ≤ ps.length ∧ ps.length ≤ 12) (he : Pl e) (h : manyB 8 e = false) : callP (w_points_table tab) [d, e] μ = .exc (refu e) μ := by
  obtain ⟨q1, q2, q3⟩ := oh_pv hd (by omega)
  have tp := pts_run (o1 := some e) (o2 := none) (o3 := none) (o4 := none) (o5 := none) (o6 := none) q1 q2 q3
  rw [oh_pts hd hc hl] at tp
  have vd := q1.vo
  have ve := he.vo
  have nm := fun μ => many_bad (μ := μ) he h
  have ln : ∀ μ, gLen [d] μ = some (.int (ps.length : Int)) := fun μ => hd.len
  have n1 : gNewL [] ([] : Mem) = some (.loc 0, [.lst []]) := rfl
  have rp : ∀ μ, gRepA (.tup [.int 1]) (.int (ps.length : Int)) μ = some (oT (powRow ps 0)) := fun μ => by
    rw [gRepA_run (by omega) (by omega) (by simp)]
    have : ((ps.length : Int)).toNat = ps.length := by omega
    rw [this]
    congr 2
    simp [powRow]
  refine callP_exc (μ' := [.lst []]) (body_exc (δ := [some d, some e, none, none, none, none, none]) (δ' := [some d, some e, some (.loc 0), some (oT (powRow ps 0)), none, none, none]) rfl ?_) (q1.ls (he.ls rfl)) (by simpa [refu] using he.ls rfl)
  rw [seq_nx (δ1 := [some d, some e, none, none, none, none, none]) (μ1 := []) (by
    generalize tPts = tt at *
    simp [tp])]
  rw [seq_nx (δ1 := [some d, some e, some (.loc 0), none, none, none, none]) (μ1 := [.lst []]) (by simp [n1])]
  rw [seq_nx (δ1 := [some d, some e, some (.loc 0), some (oT (powRow ps 0)), none, none, none]) (μ1 := [.lst []]) (by
    generalize oT (powRow ps 0) = t0 at *
    simp [eVar_run, vd, ln, gTupD_run, rp])]
  generalize oT (powRow ps 0) = t0 at *
  have it : (iRange1 (aCons (eCallP w_need_many (aCons (eVar 1) (aCons (eC (.int 8)) aNil))) aNil)) [some d, some e, some (.loc 0), some t0, none, none, none] [.lst []] = .exc (refu e) [.lst []] := by
    unfold iRange1
    simp [eVar_run, ve, nm]
  rw [sSeq_run, sFor_run, it]
  rfl
/-! ### powers of odd points -/
def oddP (n : Nat) : List Int := (List.range n).map fun (i : Nat) => 2 * (i : Int) + 1
theorem oddP_len (n : Nat) : (oddP n).length = n := by simp [oddP]
theorem oddP_cells {n : Nat} (h : n ≤ 12) : Cells (oddP n) := fun x hx => by
  obtain ⟨i, hi, rfl⟩ := List.mem_map.mp hx
  have := List.mem_range.mp hi
  omega
theorem odd_run {n : Nat} {e : D} (h : 1 ≤ n ∧ n ≤ 12) : eOddP [some (.int (n : Int)), some e, none] [] = .ok (oL (oddP n)) [] := by
  have nm := fun μ => many_ok (μ := μ) (i := (n : Int)) (m := 12) (by omega)
  have it : (iRange1 (aCons (eCallP w_need_many (aCons (eVar 0) (aCons (eC (.int 12)) aNil))) aNil)) [some (.int (n : Int)), some e, none] [] = .ok ((List.range n).map fun (j : Nat) => D.int (j : Int)) [] := range1_run (by simp [eVar_run, nm]) (by omega)
  have lc := lcL_map (e := fun (j : Nat) => D.int (j : Int)) (f := fun (j : Nat) => D.int (2 * (j : Int) + 1)) (me := (e2 gAdd (e2 gMul (eC (.int 2)) (eVar 2)) (eC (.int 1)))) (δ := [some (.int (n : Int)), some e, none]) (μ := []) (i := 2) (List.range n) fun j hj => by
    have g : ∀ μ, gMul (.int 2) (.int (j : Int)) μ = some (.int (2 * (j : Int))) := fun μ => gMul_l (by omega) (by omega)
    simp [eVar_run, g]
  have hw : wipeD [some (.int (n : Int)), some e, none] [2] = [some (.int (n : Int)), some e, none] := rfl
  unfold eOddP
  simp only [eLc_run, it, bind_ok, hw, lc]
  rw [if_pos (szN (by simp; omega))]
  unfold oddP oL
  rw [List.map_map]
  rfl
theorem power_of_table {tab : FlT} {n : Nat} {e : D} {o : Out D} (h : 1 ≤ n ∧ n ≤ 12) (he : Pl e) (hp : callP (w_points_table tab) [oL (oddP n), e] [] = o) (ho : (∃ x, o = .ok x [] ∧ locB false 0 x = true) ∨ (∃ x, o = .exc x [] ∧ locBs false 0 (x.fs.map (·.2)) = true)) :
    callP (w_power_table tab) [.int (n : Int), e] μ = (match o with | .ok x _ => .ok x μ | .exc x _ => .exc x μ | .stuck => .stuck) := by
  have od := odd_run (e := e) h
  have ve := he.vo
  rcases ho with ⟨x, rfl, hx⟩ | ⟨x, rfl, hx⟩
  · refine callP_ok (μ' := []) (body_ret (δ := [some (.int (n : Int)), some e, none]) rfl ?_) (Pl.ls .int (he.ls rfl)) hx
    generalize oL (oddP n) = oo at *
    generalize eOddP = ee at *
    generalize w_points_table tab = pt at *
    simp [eVar_run, ve, od, hp]
  · refine callP_exc (μ' := []) (body_exc (δ := [some (.int (n : Int)), some e, none]) (δ' := [some (.int (n : Int)), some e, none]) rfl ?_) (Pl.ls .int (he.ls rfl)) hx
    generalize oL (oddP n) = oo at *
    generalize eOddP = ee at *
    generalize w_points_table tab = pt at *
    simp [eVar_run, ve, od, hp]
theorem power_ok {tab : FlT} (T : TabOkF tab) {n k : Nat} (h : 1 ≤ n ∧ n ≤ 12) (hk : 1 ≤ k ∧ k ≤ 8) : callP (w_power_table tab) [.int (n : Int), .int (k : Int)] μ = .ok (tbl (pows (oddP n) k) n) μ := by
  have p := points_ok (μ := []) T (.l (zs := oddP n)) (oddP_cells h.2) (by rw [oddP_len]; exact h) hk
  rw [oddP_len] at p
  exact power_of_table h .int p (.inl ⟨_, rfl, tab_lc fun x hx => by
    obtain ⟨z, _, rfl⟩ := List.mem_map.mp hx
    exact pl_oT z⟩)
theorem power_many {tab : FlT} {n : Nat} {e : D} (h : 1 ≤ n ∧ n ≤ 12) (he : Pl e) (hb : manyB 8 e = false) : callP (w_power_table tab) [.int (n : Int), e] μ = .exc (refu e) μ := by
  have p := points_many (μ := []) (tab := tab) (.l (zs := oddP n)) (oddP_cells h.2) (by rw [oddP_len]; exact h) he hb
  exact power_of_table h he p (.inr ⟨_, rfl, by simpa [refu] using he.ls rfl⟩)
theorem power_bad {tab : FlT} {e : D} (hd : Pl d) (he : Pl e) (hb : manyB 12 d = false) : callP (w_power_table tab) [d, e] μ = .exc (refu d) μ := by
  have nm := fun μ => many_bad (μ := μ) hd hb
  refine callP_exc (μ' := []) (body_exc (δ := [some d, some e, none]) (δ' := [some d, some e, none]) rfl ?_) (hd.ls (he.ls rfl)) (by simpa [refu] using hd.ls rfl)
  have od : eOddP [some d, some e, none] [] = .exc (refu d) [] := by
    unfold eOddP
    have it : (iRange1 (aCons (eCallP w_need_many (aCons (eVar 0) (aCons (eC (.int 12)) aNil))) aNil)) [some d, some e, none] [] = .exc (refu d) [] := by
      unfold iRange1
      simp [eVar_run, hd.vo, nm]
    rw [eLc_run, it]
    rfl
  generalize eOddP = ee at *
  generalize w_points_table tab = pt at *
  simp [od]
/-! ### sums -/
theorem tab_ls {rs : List (List Int)} {n : Nat} {ds : List D} (h : locBs false 0 ds = true) : locBs false 0 (tbl rs n :: ds) = true := by
  rw [locBs, h, tab_lc fun x hx => by
    obtain ⟨z, _, rfl⟩ := List.mem_map.mp hx
    exact pl_oT z]
  rfl
theorem sums_ok {tab : FlT} (T : TabOkF tab) {n : Nat} {rs : List (List Int)} {cs : List Int} (ok : RowsOk n rs) (h : Oh cs d) (hc : Cells cs) (hl : cs.length = n) : callP (w_sums_of_cells tab) [tbl rs n, d] μ = .ok (oT (rs.map fun r => prodI r cs)) μ := by
  obtain ⟨q1, q2, q3⟩ := oh_pv h (by have := ok.2.1; omega)
  have vd := q1.vo
  have bk := fun μ => blk_run (μ := μ) q1 q2 q3 n
  rw [show blkB n d = true by rw [← hl]; exact oh_blk h hc] at bk
  have f1 : ∀ μ, gFld tab "rows" (tbl rs n) μ = some (.tup (rs.map oT)) := fun μ => (tab_fld T (xs := rs.map oT) (n := n) μ).1
  have f2 : ∀ μ, gFld tab "data" (tbl rs n) μ = some (.int (n : Int)) := fun μ => (tab_fld T (xs := rs.map oT) (n := n) μ).2.1
  have vt : ∀ μ, vOf (some (some (tbl rs n))) μ = .ok (tbl rs n) μ := fun μ => tab_vo (xs := rs.map oT) (n := n) μ
  refine callP_ok (μ' := []) (body_ret (δ := [some (tbl rs n), some d, none]) rfl ?_) (tab_ls (h.pl.ls rfl)) (pl_oT _).lc
  have lc : (eLc (iSeq (e1 (gFld tab "rows") (eVar 0))) (gNm 2) tYesM (eCallP w_product (aCons (eVar 2) (aCons (eVar 1) aNil))) [2]) [some (tbl rs n), some d, none] [] = .ok (oL (rs.map fun r => prodI r cs)) [] := by
    have e := lcL_map (e := oT) (f := fun r => D.int (prodI r cs)) (me := (eCallP w_product (aCons (eVar 2) (aCons (eVar 1) aNil)))) (δ := [some (tbl rs n), some d, none]) (μ := []) (i := 2) rs (fun r hr => by
      have pr := prod_run (μ := []) (Oh.t (zs := r)) h (ok.2.2 r hr).2 (by rw [(ok.2.2 r hr).1]; have := ok.2.1; omega)
      have vr : ∀ μ, vOf (some (some (oT r))) μ = .ok (oT r) μ := fun _ => rfl
      generalize oT r = tr at *
      generalize tbl rs n = tt at *
      simp [eVar_run, vr, vd, pr])
    have sq : seqV (.tup (rs.map oT)) = some (rs.map oT) := rfl
    have it : (iSeq (e1 (gFld tab "rows") (eVar 0))) [some (tbl rs n), some d, none] [] = .ok (rs.map oT) [] := by
      generalize tbl rs n = tt at *
      generalize D.tup (rs.map oT) = tu at *
      generalize rs.map oT = rr at *
      simp [eVar_run, vt, f1, sq]
    have hw : wipeD [some (tbl rs n), some d, none] [2] = [some (tbl rs n), some d, none] := rfl
    simp only [eLc_run, it, bind_ok, hw, e]
    rw [if_pos (szN (by rw [List.length_map]; have := ok.1; omega))]
    unfold oL
    rw [List.map_map]
    rfl
  have gt : gTuple [oL (rs.map fun r => prodI r cs)] ([] : Mem) = some (oT (rs.map fun r => prodI r cs)) := rfl
  generalize (eLc (iSeq (e1 (gFld tab "rows") (eVar 0))) (gNm 2) tYesM (eCallP w_product (aCons (eVar 2) (aCons (eVar 1) aNil))) [2]) = ee at *
  generalize oL (rs.map fun r => prodI r cs) = ll at *
  generalize oT (rs.map fun r => prodI r cs) = l2 at *
  generalize tbl rs n = tt at *
  simp [eVar_run, vt, vd, f2, bk, lc, gt]
theorem sums_bad {tab : FlT} (T : TabOkF tab) {n : Nat} {rs : List (List Int)} (hd : Pl d) (hi : ∀ x ∈ itD d, Pl x) (hl : (itD d).length ≤ 1000000) (h : blkB n d = false) : callP (w_sums_of_cells tab) [tbl rs n, d] μ = .exc (refu d) μ := by
  have bk := fun μ => blk_run (μ := μ) hd hi hl n
  rw [h] at bk
  have f2 : ∀ μ, gFld tab "data" (tbl rs n) μ = some (.int (n : Int)) := fun μ => (tab_fld T (xs := rs.map oT) (n := n) μ).2.1
  have vt : ∀ μ, vOf (some (some (tbl rs n))) μ = .ok (tbl rs n) μ := fun μ => tab_vo (xs := rs.map oT) (n := n) μ
  refine callP_exc (μ' := []) (body_exc (δ := [some (tbl rs n), some d, none]) (δ' := [some (tbl rs n), some d, none]) rfl ?_) (tab_ls (hd.ls rfl)) (by simpa [refu] using hd.ls rfl)
  generalize tbl rs n = tt at *
  simp [eVar_run, vt, hd.vo, f2, bk, refu]
/-! ### own == -/
theorem tabeq_run {tab : FlT} (T : TabOkF tab) {rs qs : List (List Int)} {n m : Nat} : callP (w_table_eq tab) [tbl rs n, tbl qs m] μ = .ok (.bl (rs == qs)) μ := by
  have f1 : ∀ μ, gFld tab "rows" (tbl rs n) μ = some (.tup (rs.map oT)) := fun μ => (tab_fld T (xs := rs.map oT) (n := n) μ).1
  have g1 : ∀ μ, gFld tab "rows" (tbl qs m) μ = some (.tup (qs.map oT)) := fun μ => (tab_fld T (xs := qs.map oT) (n := m) μ).1
  have v1 : ∀ μ, vOf (some (some (tbl rs n))) μ = .ok (tbl rs n) μ := fun μ => tab_vo (xs := rs.map oT) (n := n) μ
  have v2 : ∀ μ, vOf (some (some (tbl qs m))) μ = .ok (tbl qs m) μ := fun μ => tab_vo (xs := qs.map oT) (n := m) μ
  have is2 : ∀ μ, gIsiC "Table" (tbl qs m) μ = some (.bl true) := fun _ => rfl
  have ge : ∀ μ, gEq (.tup (rs.map oT)) (.tup (qs.map oT)) μ = some (.bl (rs == qs)) := fun μ => gEq_oR rs qs
  refine callP_ok (μ' := []) (body_ret (δ := [some (tbl rs n), some (tbl qs m)]) rfl ?_) (tab_ls (tab_ls rfl)) rfl
  generalize (rs == qs) = bb at *
  generalize tbl rs n = t1 at *
  generalize tbl qs m = t2 at *
  generalize D.tup (rs.map oT) = u1 at *
  generalize D.tup (qs.map oT) = u2 at *
  simp [eVar_run, v1, v2, is2, f1, g1, ge]
theorem tabeq_no {tab : FlT} (T : TabOkF tab) {rs : List (List Int)} {n : Nat} (hd : Pl d) (h : ∀ μ, gIsiC "Table" d μ = some (.bl false)) : callP (w_table_eq tab) [tbl rs n, d] μ = .ok (.bl false) μ := by
  refine callP_ok (μ' := []) (body_ret (δ := [some (tbl rs n), some d]) rfl ?_) (tab_ls (hd.ls rfl)) rfl
  generalize tbl rs n = t1 at *
  simp [eVar_run, hd.vo, h]
end
end Kw

set_option Elab.async false
set_option linter.all false
set_option maxRecDepth 100000
/-! drawn rows -/
namespace K05
open PySem PySem.Spec PyProof.Rows L2 Kw
theorem e_check : f_check_table = w_check_table := rfl
theorem e_init : f_Table___init__ = w_table_init fldTab := rfl
theorem e_eq : f_Table___eq__ = w_table_eq fldTab := rfl
theorem e_points : f_points_table = w_points_table fldTab := rfl
theorem e_power : f_power_table = w_power_table fldTab := rfl
theorem e_sums : f_sums_of_cells = w_sums_of_cells fldTab := rfl
theorem tok : TabOkF fldTab := ⟨rfl, rfl, rfl⟩
def sr1 : SM := (sPar 3 4 (aCons (eAsM gNewL aNil) (aCons (eAsM gNewL aNil) aNil)))
def sr2 : SM := (sFor (iRange1 (aCons (eVar 2) aNil)) (gNm 5) (sDrop (eMtL gAppend (eVar 3) (aCons (eCallM f__law_pick (aCons (eVar 0) (aCons (eAs gLstD (aCons (e2 gAdd (e2 gMul (eC (.int 2)) (eVar 5)) (eC (.int 1))) (aCons (e2 gAdd (eC (.int 1)) (eCallM f__law_take (aCons (eVar 0) (aCons (eC (.int 40)) aNil)))) (aCons (eCallM f__law_take (aCons (eVar 0) (aCons (eC (.int 257)) aNil))) aNil)))) aNil))) aNil))))
def sr3 : SM := (sFrz 3)
def sr4 : SM := (sAsg (e2 gRepA (eAs gLstD (aCons (eC (.int 1)) aNil)) (eVar 2)) (gNm 6))
def sr5 : SM := (sFor (iRange1 (aCons (eVar 1) aNil)) (gNm 7) (sSeq (sDrop (eMtL gAppend (eVar 4) (aCons (eAs gTuple (aCons (eVar 6) aNil)) aNil))) (sAsg (eLc (iZip2 (aCons (eVar 6) (aCons (eVar 3) aNil))) (gSeq 2 (gsCons (gNm 8) (gsCons (gNm 9) gsNil))) tYesM (e2 gMod (eAs gInt (aCons (e2 gMul (eVar 8) (eVar 9)) aNil)) (eC (.int 257))) [8, 9]) (gNm 6))))
def sr6 : SM := (sIf (tBl (e2 gEq (eCallM f__law_take (aCons (eVar 0) (aCons (eC (.int 3)) aNil))) (eC (.int 0)))) (sAsg (eLcN true (nOf (iRange1 (aCons (eVar 1) aNil))) (gNm 7) tYesM (eAs gTuple (aCons (eLc (iRange1 (aCons (eVar 2) aNil)) (gNm 5) tYesM (eCallM f__law_take (aCons (eVar 0) (aCons (eC (.int 257)) aNil))) [5]) aNil)) [7]) (gNm 4)) sNext)
def sr7 : SM := (sFrz 4)
def sr8 : SM := (sRet (eAs gTupD (aCons (eAs gTuple (aCons (eVar 3) aNil)) (aCons (eVar 4) aNil))))
theorem sr_f : m__law_rows = (sSeq sr1 (sSeq sr2 (sSeq sr3 (sSeq sr4 (sSeq sr5 (sSeq sr6 (sSeq sr7 sr8))))))) := rfl
/-- cells drawn one by one -/
theorem draw_cells {μ : Mem} {l i : Nat} {δ : Sv} (hi : i < δ.length) (h0 : i ≠ 0) (hv : δ[0]? = some (some (.loc l))) (hb : Bxn 2 μ l) (n : Nat) : ∃ (cs : List Int) (μ' : Mem), lcL (gNm i) tYesM (eCallM f__law_take (aCons (eVar 0) (aCons (eC (.int 257)) aNil))) δ ((List.range n).map fun (j : Nat) => D.int (j : Int)) μ = .ok (cs.map D.int) μ' ∧ cs.length = n ∧ Cells cs ∧ Bxn 2 μ' l ∧ Stay l μ μ' := by
  obtain ⟨ys, μ2, el, ⟨b2, s2⟩, n2, p2⟩ := lcL_eff (e := fun (j : Nat) => D.int (j : Int)) (me := (eCallM f__law_take (aCons (eVar 0) (aCons (eC (.int 257)) aNil)))) (δ := δ) (i := i) (I := fun μ2 => Bxn 2 μ2 l ∧ Stay l μ μ2) (P := fun y => ∃ c, y = .int c ∧ (0 ≤ c ∧ c < 257)) (List.range n) μ (fun j _ μ2 ⟨b, st⟩ => by
    obtain ⟨c, μ3, t3, c0, c1, b3, s3⟩ := take_ok (m := 257) b (by omega) (by omega)
    have v0 : ∀ μ, eVar 0 (δ.set i (some (.int (j : Int)))) μ = .ok (.loc l) μ := fun μ => by
      unfold eVar
      rw [List.getElem?_set_ne h0, hv]
    exact ⟨.int c, μ3, by simp [v0, t3], ⟨b3, st.trans s3⟩, c, rfl, c0, c1⟩) ⟨hb, .refl _ _⟩
  obtain ⟨cs, rfl, hc⟩ := ints_of ys p2
  exact ⟨cs, μ2, el, by simpa using n2, hc, b2, s2⟩
section
variable {μ : Mem} {l p q : Nat} {k n : Nat}
abbrev slD (l k n : Nat) (o3 o4 o5 o6 o7 : Option D) : Sv := [some (.loc l), some (.int (k : Int)), some (.int (n : Int)), o3, o4, o5, o6, o7, none, none]
theorem pts_draw {o6 o7 : Option D} (hb : Bxn 2 μ l) (hp : μ[p]? = some (.lst [])) (lp : p ≠ l) (hn : n ≤ 100) : ∃ (ps : List Int) (o5 : Option D) (μ' : Mem), sr2 (slD l k n (some (.loc p)) (some (.loc q)) none o6 o7) μ = .nx (slD l k n (some (.loc p)) (some (.loc q)) o5 o6 o7) μ' ∧ ps.length = n ∧ Cells ps ∧ Bxn 2 μ' l ∧ μ'[p]? = some (.lst (ps.map D.int)) ∧ μ'.length = μ.length ∧ ∀ i, i ≠ l → i ≠ p → μ'[i]? = μ[i]? := by
  obtain ⟨δ', μ', hl, ⟨ps, o5, rfl, h2, h3, h4, h5, h6, h7⟩⟩ := loopS_pre (e := fun (j : Nat) => D.int (j : Int)) (g := gNm 5) (b := (sDrop (eMtL gAppend (eVar 3) (aCons (eCallM f__law_pick (aCons (eVar 0) (aCons (eAs gLstD (aCons (e2 gAdd (e2 gMul (eC (.int 2)) (eVar 5)) (eC (.int 1))) (aCons (e2 gAdd (eC (.int 1)) (eCallM f__law_take (aCons (eVar 0) (aCons (eC (.int 40)) aNil)))) (aCons (eCallM f__law_take (aCons (eVar 0) (aCons (eC (.int 257)) aNil))) aNil)))) aNil))) aNil)))) (R := fun pre δ μ' => ∃ (ps : List Int) (o5 : Option D), δ = slD l k n (some (.loc p)) (some (.loc q)) o5 o6 o7 ∧ ps.length = pre.length ∧ (pre.length ≤ 120 → Cells ps) ∧ Bxn 2 μ' l ∧ μ'[p]? = some (.lst (ps.map D.int)) ∧ μ'.length = μ.length ∧ ∀ i, i ≠ l → i ≠ p → μ'[i]? = μ[i]?) (List.range n) (fun pre j post δ μ' hm ⟨ps, o5, e, h2, h3, h4, h5, h6, h7⟩ => by
    subst e
    have hpl : pre.length < n := by
      have := congrArg List.length hm
      simp at this
      omega
    have hj : j = pre.length := by
      have h1 : (pre ++ j :: post)[pre.length]? = some j := by simp
      rw [hm, List.getElem?_range hpl] at h1
      exact (Option.some.inj h1).symm
    obtain ⟨r, μ1, t1, r0, r1, b1, s1⟩ := take_ok (m := 40) h4 (by omega) (by omega)
    obtain ⟨r', μ2, t2, r0', r1', b2, s2⟩ := take_ok (m := 257) b1 (by omega) (by omega)
    obtain ⟨y, μ3, p3, m3, b3, s3⟩ := pickL (xs := [.int (2 * (j : Int) + 1), .int (1 + r), .int r']) b2 (by simp) (by simp)
    obtain ⟨c, rfl, hc⟩ : ∃ c, y = .int c ∧ (j < 120 → 0 ≤ c ∧ c < 257) := by
      simp only [List.mem_cons, List.not_mem_nil, or_false] at m3
      rcases m3 with e | e | e <;> exact ⟨_, e, by omega⟩
    have g2 : ∀ μ, gMul (.int 2) (.int (j : Int)) μ = some (.int (2 * (j : Int))) := fun μ => gMul_l (by omega) (by omega)
    have st : Stay l μ' μ3 := (s1.trans s2).trans s3
    have hp3 : μ3[p]? = some (.lst (ps.map D.int)) := by rw [st.2 p lp]; exact h5
    have ml := mtL_app (ma := (aCons (eCallM f__law_pick (aCons (eVar 0) (aCons (eAs gLstD (aCons (e2 gAdd (e2 gMul (eC (.int 2)) (eVar 5)) (eC (.int 1))) (aCons (e2 gAdd (eC (.int 1)) (eCallM f__law_take (aCons (eVar 0) (aCons (eC (.int 40)) aNil)))) (aCons (eCallM f__law_take (aCons (eVar 0) (aCons (eC (.int 257)) aNil))) aNil)))) aNil))) aNil)) (mo := eVar 3) (δ := slD l k n (some (.loc p)) (some (.loc q)) (some (.int (j : Int))) o6 o7) (y := .int c) (by rfl) h5 (by unfold slD; simp [eVar_run, g2, t1, t2, gLstD_run, p3]) hp3 (by simp; omega)
    have hlt : p < μ3.length := (List.getElem?_eq_some_iff.mp hp3).1
    refine ⟨slD l k n (some (.loc p)) (some (.loc q)) (some (.int (j : Int))) o6 o7, slD l k n (some (.loc p)) (some (.loc q)) (some (.int (j : Int))) o6 o7, μ', _, rfl, .inl (by rw [sDrop_run, ml]; rfl), ps ++ [c], _, rfl, by simp [h2], fun h => ?_, b3.set lp, by rw [List.getElem?_set_self hlt]; simp, by rw [List.length_set, st.1, h6], fun i hi hi2 => by rw [List.getElem?_set_ne (Ne.symm hi2), st.2 i hi]; exact h7 i hi hi2⟩
    have hl2 : pre.length + 1 ≤ 120 := by simpa using h
    intro x hx
    rcases List.mem_append.mp hx with h | h
    · exact h3 (by omega) x h
    · rw [List.mem_singleton.mp h]; exact hc (by omega)) (δ := slD l k n (some (.loc p)) (some (.loc q)) none o6 o7) (μ := μ) ⟨[], none, rfl, rfl, fun _ _ h => absurd h (List.not_mem_nil), hb, hp, rfl, fun _ _ _ => rfl⟩
  have it : (iRange1 (aCons (eVar 2) aNil)) (slD l k n (some (.loc p)) (some (.loc q)) none o6 o7) μ = .ok ((List.range n).map fun (j : Nat) => D.int (j : Int)) μ := range1_run rfl (by omega)
  rw [List.length_range] at h2 h3
  exact ⟨ps, o5, μ', by unfold sr2; rw [sFor_run, it, bindS_ok]; exact hl, h2, h3 (by omega), h4, h5, h6, h7⟩
theorem gRepA_lst {x : D} {n : Nat} (h : n ≤ 1000) (μ : Mem) : gRepA (.lst [x]) (.int (n : Int)) μ = some (.lst (List.replicate n x)) := by
  show gRep (.lst [x]) (.int (n : Int)) μ = _
  unfold gRep
  simp only
  rw [if_pos ⟨by omega, by omega, by rw [List.length_singleton]; exact szN (by omega)⟩]
  unfold repD
  rw [Int.toNat_natCast]
  congr 2
  simp
/-- [int(c * p) % 257 for c, p in zip(row, points)] -/
theorem zip_powI {a b : List Int} (ha : Cells a) {δ : Sv} {μ : Mem} {i j : Nat} (hij : i ≠ j) (hi : i < δ.length) (hj : j < δ.length) :
    lcL (gSeq 2 (gsCons (gNm i) (gsCons (gNm j) gsNil))) tYesM (e2 gMod (eAs gInt (aCons (e2 gMul (eVar i) (eVar j)) aNil)) (eC (.int 257))) δ (zipD (a.map D.int) (b.map D.int)) μ = .ok ((List.zipWith (fun x y => x * y % 257) a b).map D.int) μ := by
  rw [lcL_zip2 (f := fun x y => D.int (x * y % 257)) a b fun x hx y hy => by
    have v1 : eVar i ((δ.set i (some (.int x))).set j (some (.int y))) μ = .ok (.int x) μ := by
      unfold eVar
      rw [List.getElem?_set_ne (Ne.symm hij), List.getElem?_set_self hi]
    have v2 : eVar j ((δ.set i (some (.int x))).set j (some (.int y))) μ = .ok (.int y) μ := by
      unfold eVar
      rw [List.getElem?_set_self (by simpa using hj)]
    have g : gMul (.int x) (.int y) μ = some (.int (x * y)) := gMul_l (by have := ha x hx; omega) (by have := ha x hx; omega)
    simp [v1, v2, g, gMod_int]]
  rw [List.map_zipWith]
def bRow : SM := (sSeq (sDrop (eMtL gAppend (eVar 4) (aCons (eAs gTuple (aCons (eVar 6) aNil)) aNil))) (sAsg (eLc (iZip2 (aCons (eVar 6) (aCons (eVar 3) aNil))) (gSeq 2 (gsCons (gNm 8) (gsCons (gNm 9) gsNil))) tYesM (e2 gMod (eAs gInt (aCons (e2 gMul (eVar 8) (eVar 9)) aNil)) (eC (.int 257))) [8, 9]) (gNm 6)))
theorem rows_loop {ps : List Int} {o5 o7 : Option D} (hb : Bxn 2 μ l) (hq : μ[q]? = some (.lst [])) (lq : q ≠ l) (hk : k ≤ 100) (hn : ps.length ≤ 100) : ∃ (p6 p7 : Option D), sr5 (slD l k n (some (oL ps)) (some (.loc q)) o5 (some (oL (powRow ps 0))) o7) μ = .nx (slD l k n (some (oL ps)) (some (.loc q)) o5 p6 p7) (μ.set q (.lst ((pows ps k).map oT))) := by
  have hlt : q < μ.length := (List.getElem?_eq_some_iff.mp hq).1
  obtain ⟨δ', μ', hl, ⟨o7', rfl⟩, rfl⟩ := loopS_pre (e := fun (j : Nat) => D.int (j : Int)) (g := gNm 7) (b := bRow) (R := fun pre δ μ' => (∃ o7, δ = slD l k n (some (oL ps)) (some (.loc q)) o5 (some (oL (powRow ps pre.length))) o7) ∧ μ' = μ.set q (.lst ((List.range pre.length).map fun i => oT (powRow ps i)))) (List.range k) (fun pre j post δ μ' hm ⟨⟨o7, e⟩, e2⟩ => by
    subst e
    have hpl : pre.length < k := by
      have := congrArg List.length hm
      simp at this
      omega
    have hq' : μ'[q]? = some (.lst ((List.range pre.length).map fun i => oT (powRow ps i))) := by rw [e2]; exact List.getElem?_set_self hlt
    have vr : ∀ μ, vOf (some (some (oL (powRow ps pre.length)))) μ = .ok (oL (powRow ps pre.length)) μ := fun _ => rfl
    have gt : ∀ r (μ : Mem), gTuple [oL r] μ = some (oT r) := fun _ _ => rfl
    have ml := mtL_app (ma := (aCons (eAs gTuple (aCons (eVar 6) aNil)) aNil)) (mo := eVar 4) (δ := slD l k n (some (oL ps)) (some (.loc q)) o5 (some (oL (powRow ps pre.length))) (some (.int (j : Int)))) (y := oT (powRow ps pre.length)) (by rfl) hq' (by
      unfold slD
      generalize oL ps = tp at *
      have gt' := fun μ => gt (powRow ps pre.length) μ
      generalize oL (powRow ps pre.length) = t1 at *
      generalize oT (powRow ps pre.length) = t2 at *
      simp [eVar_run, vr, gt']) hq' (by simp; omega)
    have el : (pre ++ [j]).length = pre.length + 1 := by simp
    refine ⟨slD l k n (some (oL ps)) (some (.loc q)) o5 (some (oL (powRow ps pre.length))) (some (.int (j : Int))), slD l k n (some (oL ps)) (some (.loc q)) o5 (some (oL (powRow ps (pre ++ [j]).length))) (some (.int (j : Int))), μ', μ'.set q (.lst ((List.range (pre ++ [j]).length).map fun i => oT (powRow ps i))), rfl, .inl ?_, ⟨_, rfl⟩, by rw [e2, List.set_set]⟩
    rw [el]
    unfold bRow
    rw [seq_nx (δ1 := slD l k n (some (oL ps)) (some (.loc q)) o5 (some (oL (powRow ps pre.length))) (some (.int (j : Int)))) (μ1 := μ'.set q (.lst ((List.range (pre.length + 1)).map fun i => oT (powRow ps i)))) (by
      rw [sDrop_run, ml, List.range_succ, List.map_append]
      rfl)]
    generalize μ'.set q (.lst ((List.range (pre.length + 1)).map fun i => oT (powRow ps i))) = M
    have zc := zip_powI (b := ps) (powRow_cells ps pre.length) (δ := slD l k n (some (oL ps)) (some (.loc q)) o5 (some (oL (powRow ps pre.length))) (some (.int (j : Int)))) (μ := M) (i := 8) (j := 9) (by decide) (by simp) (by simp)
    have vp : ∀ μ, vOf (some (some (oL ps))) μ = .ok (oL ps) μ := fun _ => rfl
    have sr : seqV (oL (powRow ps pre.length)) = some ((powRow ps pre.length).map D.int) := rfl
    have sp : seqV (oL ps) = some (ps.map D.int) := rfl
    have iz : iZip2 (aCons (eVar 6) (aCons (eVar 3) aNil)) (slD l k n (some (oL ps)) (some (.loc q)) o5 (some (oL (powRow ps pre.length))) (some (.int (j : Int)))) M = .ok (zipD ((powRow ps pre.length).map D.int) (ps.map D.int)) M := by
      unfold slD
      generalize oL (powRow ps pre.length) = tr at *
      generalize oL ps = tp at *
      simp [eVar_run, vr, vp, sr, sp]
    have hw : wipeD (slD l k n (some (oL ps)) (some (.loc q)) o5 (some (oL (powRow ps pre.length))) (some (.int (j : Int)))) [8, 9] = slD l k n (some (oL ps)) (some (.loc q)) o5 (some (oL (powRow ps pre.length))) (some (.int (j : Int))) := rfl
    rw [sAsg_run, eLc_run, iz, bind_ok, hw, zc]
    simp only
    rw [if_pos (szN (by have := powRow_len ps pre.length; simp; omega))]
    rfl) (δ := slD l k n (some (oL ps)) (some (.loc q)) o5 (some (oL (powRow ps 0))) o7) (μ := μ) ⟨⟨o7, rfl⟩, by
      refine List.ext_getElem? fun i => ?_
      by_cases e : q = i
      · subst e; rw [hq, List.getElem?_set_self hlt]; rfl
      · rw [List.getElem?_set_ne e]⟩
  rw [List.length_range] at hl
  have it : (iRange1 (aCons (eVar 1) aNil)) (slD l k n (some (oL ps)) (some (.loc q)) o5 (some (oL (powRow ps 0))) o7) μ = .ok ((List.range k).map fun (j : Nat) => D.int (j : Int)) μ := range1_run rfl (by omega)
  refine ⟨_, _, by
    show (sFor (iRange1 (aCons (eVar 1) aNil)) (gNm 7) bRow) _ _ = _
    rw [sFor_run, it, bindS_ok, hl, pows, List.map_map]
    rfl⟩

theorem rows_of_P {n : Nat} : ∀ ys : List D, (∀ y ∈ ys, ∃ zs, y = oT zs ∧ zs.length = n ∧ Cells zs) → ∃ rs : List (List Int), ys = rs.map oT ∧ ∀ zs ∈ rs, zs.length = n ∧ Cells zs
  | [], _ => ⟨[], rfl, fun _ h => absurd h (List.not_mem_nil)⟩
  | y :: ys, h => by
    obtain ⟨zs, rfl, h2⟩ := h y List.mem_cons_self
    obtain ⟨rs, rfl, h3⟩ := rows_of_P ys fun z hz => h z (List.mem_cons_of_mem _ hz)
    exact ⟨zs :: rs, rfl, fun z hz => (List.mem_cons.mp hz).elim (fun e => e ▸ h2) (h3 z)⟩
theorem rows_rand {o3 o4 o5 o6 o7 : Option D} (hb : Bxn 2 μ l) (hk : k ≤ 100) (hn : n ≤ 100) : ∃ (rs : List (List Int)) (μ' : Mem), (eLcN true (nOf (iRange1 (aCons (eVar 1) aNil))) (gNm 7) tYesM (eAs gTuple (aCons (eLc (iRange1 (aCons (eVar 2) aNil)) (gNm 5) tYesM (eCallM f__law_take (aCons (eVar 0) (aCons (eC (.int 257)) aNil))) [5]) aNil)) [7]) (slD l k n o3 o4 o5 o6 o7) μ = .ok (.loc μ.length) (μ' ++ [.lst (rs.map oT)]) ∧ rs.length = k ∧ (∀ r ∈ rs, r.length = n ∧ Cells r) ∧ Bxn 2 μ' l ∧ Stay l μ μ' := by
  obtain ⟨ys, μ2, el, ⟨b2, s2⟩, n2, p2⟩ := lcL_eff (e := fun (j : Nat) => D.int (j : Int)) (me := (eAs gTuple (aCons (eLc (iRange1 (aCons (eVar 2) aNil)) (gNm 5) tYesM (eCallM f__law_take (aCons (eVar 0) (aCons (eC (.int 257)) aNil))) [5]) aNil))) (δ := slD l k n o3 o4 o5 o6 none) (i := 7) (I := fun μ2 => Bxn 2 μ2 l ∧ Stay l μ μ2) (P := fun y => ∃ zs, y = oT zs ∧ zs.length = n ∧ Cells zs) (List.range k) μ (fun j _ μ2 ⟨b, st⟩ => by
    obtain ⟨cs, μ3, e3, l3, c3, b3, s3⟩ := draw_cells (i := 5) (δ := slD l k n o3 o4 none o6 (some (.int (j : Int)))) (by simp) (by decide) rfl b n
    have it : (iRange1 (aCons (eVar 2) aNil)) (slD l k n o3 o4 o5 o6 (some (.int (j : Int)))) μ2 = .ok ((List.range n).map fun (j : Nat) => D.int (j : Int)) μ2 := range1_run rfl (by omega)
    have hw : wipeD (slD l k n o3 o4 o5 o6 (some (.int (j : Int)))) [5] = slD l k n o3 o4 none o6 (some (.int (j : Int))) := rfl
    have lc : (eLc (iRange1 (aCons (eVar 2) aNil)) (gNm 5) tYesM (eCallM f__law_take (aCons (eVar 0) (aCons (eC (.int 257)) aNil))) [5]) (slD l k n o3 o4 o5 o6 (some (.int (j : Int)))) μ2 = .ok (oL cs) μ3 := by
      rw [eLc_run, it, bind_ok, hw, e3]
      simp only
      rw [if_pos (szN (by simp; omega))]
    have gt : ∀ μ : Mem, gTuple [oL cs] μ = some (oT cs) := fun _ => rfl
    refine ⟨oT cs, μ3, ?_, ⟨b3, st.trans s3⟩, cs, rfl, l3, c3⟩
    show (eAs gTuple (aCons (eLc (iRange1 (aCons (eVar 2) aNil)) (gNm 5) tYesM (eCallM f__law_take (aCons (eVar 0) (aCons (eC (.int 257)) aNil))) [5]) aNil)) (slD l k n o3 o4 o5 o6 (some (.int (j : Int)))) μ2 = _
    generalize (eLc (iRange1 (aCons (eVar 2) aNil)) (gNm 5) tYesM (eCallM f__law_take (aCons (eVar 0) (aCons (eC (.int 257)) aNil))) [5]) = ee at *
    generalize oT cs = t1 at *
    generalize oL cs = t2 at *
    simp [lc, gt]) ⟨hb, .refl _ _⟩
  obtain ⟨rs, rfl, hr⟩ := rows_of_P ys p2
  have hkl : rs.length = k := by simpa using n2
  have it : (iRange1 (aCons (eVar 1) aNil)) (slD l k n o3 o4 o5 o6 o7) μ = .ok ((List.range k).map fun (j : Nat) => D.int (j : Int)) μ := range1_run rfl (by omega)
  have hw : wipeD (slD l k n o3 o4 o5 o6 o7) [7] = slD l k n o3 o4 o5 o6 none := rfl
  refine ⟨rs, μ2, ?_, hkl, hr, b2, s2⟩
  rw [eLcN_fix, it, bind_ok, hw, el]
  simp only
  rw [if_pos (szN (by simp; omega)), if_pos trivial, s2.1]
theorem rows_draw (hb : Bxn 2 μ l) (hk : 1 ≤ k ∧ k ≤ 8) (hn : 1 ≤ n ∧ n ≤ 12) : ∃ (ps : List Int) (rs : List (List Int)) (μ' : Mem), callM f__law_rows [.loc l, .int (k : Int), .int (n : Int)] μ = .ok (.tup [oT ps, .lst (rs.map oT)]) μ' ∧ ps.length = n ∧ Cells ps ∧ rs.length = k ∧ RowsOk n rs ∧ Bxn 2 μ' l ∧ Kp l μ μ' := by
  obtain ⟨p, hp⟩ : ∃ p, p = μ.length := ⟨_, rfl⟩
  have n1 : gNewL [] μ = some (.loc p, μ ++ [.lst []]) := by rw [hp]; rfl
  have n2 : gNewL [] (μ ++ [.lst []]) = some (.loc (p + 1), μ ++ [.lst []] ++ [.lst []]) := by
    have : (μ ++ [Ob.lst []]).length = p + 1 := by rw [hp]; simp
    rw [← this]; rfl
  obtain ⟨M, hM⟩ : ∃ M, M = μ ++ [Ob.lst []] ++ [Ob.lst []] := ⟨_, rfl⟩
  have lp : l < p := by rw [hp]; exact hb.lt
  have bM : Bxn 2 M l := by rw [hM]; exact (hb.app).app
  have Mp : M[p]? = some (.lst []) := by rw [hM, List.getElem?_append_left (by simp; omega), hp]; simp
  have Mq : M[p + 1]? = some (.lst []) := by rw [hM, List.getElem?_append_right (by simp; omega), hp]; simp
  have kM : Kp l μ M := by rw [hM]; exact (Kp.app l μ _).trans (Kp.app l _ _)
  have lM : M.length = p + 2 := by rw [hM, hp]; simp
  obtain ⟨ps, o5, μ1, r2, l1, c1, b1, m1, len1, oth1⟩ := pts_draw (k := k) (q := p + 1) (o6 := none) (o7 := none) bM Mp (by omega) (n := n) (by omega)
  obtain ⟨N, hN⟩ : ∃ N, N = μ1.set p .gone := ⟨_, rfl⟩
  have Nq : N[p + 1]? = some (.lst []) := by rw [hN, List.getElem?_set_ne (by omega), oth1 _ (by omega) (by omega)]; exact Mq
  have bN : Bxn 2 N l := by rw [hN]; exact b1.set (by omega)
  have kN : Kp l μ N := ⟨by rw [hN, List.length_set, len1, lM, hp]; omega, fun i hi hne => by
    rw [hN, List.getElem?_set_ne (by omega), oth1 i hne (by omega)]
    exact kM.2 i hi hne⟩
  have r3 : sr3 (slD l k n (some (.loc p)) (some (.loc (p + 1))) o5 none none) μ1 = .nx (slD l k n (some (oL ps)) (some (.loc (p + 1))) o5 none none) N := by
    unfold sr3 sFrz slD
    simp only [List.getElem?_cons_succ, List.getElem?_cons_zero, m1, hN]
    rfl
  have r4 : sr4 (slD l k n (some (oL ps)) (some (.loc (p + 1))) o5 none none) N = .nx (slD l k n (some (oL ps)) (some (.loc (p + 1))) o5 (some (oL (powRow ps 0))) none) N := by
    have g := fun μ => gRepA_lst (x := .int 1) (n := n) (by omega) μ
    have e : oL (powRow ps 0) = .lst (List.replicate n (.int 1)) := by
      unfold oL powRow
      rw [List.map_replicate, l1]
    rw [e]
    unfold sr4 slD
    generalize D.lst (List.replicate n (.int 1)) = tt at *
    generalize oL ps = tp at *
    simp [eVar_run, gLstD_run, g]
  obtain ⟨o6, o7, r5⟩ := rows_loop (o5 := o5) (o7 := none) (n := n) bN Nq (by omega) (k := k) (by omega) (by omega : ps.length ≤ 100)
  obtain ⟨O, hO⟩ : ∃ O, O = N.set (p + 1) (.lst ((pows ps k).map oT)) := ⟨_, rfl⟩
  rw [← hO] at r5
  have bO : Bxn 2 O l := by rw [hO]; exact bN.set (by omega)
  have lN : p + 1 < N.length := (List.getElem?_eq_some_iff.mp Nq).1
  have Oq : O[p + 1]? = some (.lst ((pows ps k).map oT)) := by rw [hO]; exact List.getElem?_set_self lN
  have kO : Kp l μ O := ⟨by rw [hO, List.length_set]; exact kN.1, fun i hi hne => by
    rw [hO, List.getElem?_set_ne (by omega)]
    exact kN.2 i hi hne⟩
  obtain ⟨t, μ3, t3, t0, t1, b3, s3⟩ := take_ok (m := 3) bO (by omega) (by omega)
  have t3' : callM f__law_take [.loc l, .int 3] O = .ok (.int t) μ3 := t3
  have gt : ∀ (r : List Int) (μ : Mem), gTuple [oL r] μ = some (oT r) := fun _ _ => rfl
  have vp : ∀ μ, vOf (some (some (oL ps))) μ = .ok (oL ps) μ := fun _ => rfl
  -- the last three
  obtain ⟨rs, q', o7', μ4, r6, ok, hk4, m4, b4, k4⟩ : ∃ (rs : List (List Int)) (q' : Nat) (o7' : Option D) (μ4 : Mem), sr6 (slD l k n (some (oL ps)) (some (.loc (p + 1))) o5 o6 o7) O = .nx (slD l k n (some (oL ps)) (some (.loc q')) o5 o6 o7') μ4 ∧ RowsOk n rs ∧ rs.length = k ∧ μ4[q']? = some (.lst (rs.map oT)) ∧ Bxn 2 μ4 l ∧ (Kp l μ μ4 ∧ p ≤ q') := by
    by_cases c : t = 0
    · subst c
      obtain ⟨rs, μ5, e5, l5, h5, b5, s5⟩ := rows_rand (o3 := some (oL ps)) (o4 := some (.loc (p + 1))) (o5 := o5) (o6 := o6) (o7 := o7) b3 (k := k) (n := n) (by omega) (by omega)
      refine ⟨rs, μ3.length, o7, μ5 ++ [.lst (rs.map oT)], ?_, ⟨by omega, hn, h5⟩, l5, ?_, b5.app, (kO.trans (Kp.of s3)).trans ((Kp.of s5).trans (Kp.app l _ _)), ?_⟩
      · unfold sr6
        unfold slD at e5 ⊢
        generalize oL ps = tp at *
        generalize (eLcN true (nOf (iRange1 (aCons (eVar 1) aNil))) (gNm 7) tYesM (eAs gTuple (aCons (eLc (iRange1 (aCons (eVar 2) aNil)) (gNm 5) tYesM (eCallM f__law_take (aCons (eVar 0) (aCons (eC (.int 257)) aNil))) [5]) aNil)) [7]) = ee at *
        generalize (μ5 ++ [Ob.lst (rs.map oT)]) = M5 at *
        simp [eVar_run, t3', e5]
      · rw [← s5.1]; simp
      · rw [s3.1, hO, List.length_set, hN, List.length_set, len1, lM]; omega
    · refine ⟨pows ps k, p + 1, o7, μ3, ?_, by rw [← l1]; exact pows_ok (by omega) hk, by simp [pows], by rw [s3.2 _ (by omega)]; exact Oq, b3, kO.trans (Kp.of s3), by omega⟩
      unfold sr6 slD
      generalize oL ps = tp at *
      simp [eVar_run, t3', c]
  have lq' : q' ≠ l := by omega
  have r7 : sr7 (slD l k n (some (oL ps)) (some (.loc q')) o5 o6 o7') μ4 = .nx (slD l k n (some (oL ps)) (some (.lst (rs.map oT))) o5 o6 o7') (μ4.set q' .gone) := by
    unfold sr7 sFrz slD
    simp only [List.getElem?_cons_succ, List.getElem?_cons_zero, m4]
    rfl
  have k5 : Kp l μ (μ4.set q' .gone) := k4.1.set (by rw [← hp]; exact k4.2)
  have b5 : Bxn 2 (μ4.set q' .gone) l := b4.set lq'
  have r1 : sr1 (slD l k n none none none none none) μ = .nx (slD l k n (some (.loc p)) (some (.loc (p + 1))) none none none) M := by
    unfold sr1 slD
    rw [← hM] at n2
    generalize (μ ++ [Ob.lst []]) = Ma at *
    simp [n1, n2]
  have run : f__law_rows [.loc l, .int (k : Int), .int (n : Int)] μ = .ok (.tup [oT ps, .lst (rs.map oT)]) (μ4.set q' .gone) := by
    refine body_ret (N := 10) (δ := slD l k n none none none none none) rfl ?_
    rw [sr_f, seq_nx r1, seq_nx r2, seq_nx r3, seq_nx r4, seq_nx r5, seq_nx r6, seq_nx r7]
    unfold sr8 slD
    have gt' := fun μ => gt ps μ
    have vr : ∀ μ, vOf (some (some (.lst (rs.map oT)))) μ = .ok (.lst (rs.map oT)) μ := fun _ => rfl
    generalize D.lst (rs.map oT) = t1 at *
    generalize oT ps = t2 at *
    generalize oL ps = tp at *
    simp [eVar_run, vp, gt', vr, gTupD_run]
  obtain ⟨μ6, h6, le6, same⟩ := callM_any run k5.1
  exact ⟨ps, rs, μ6, h6, l1, c1, hk4, ok, b5.same (same l hb.lt), ⟨le6, fun i hi hne => by rw [same i hi]; exact k5.2 i hi hne⟩⟩
end
end K05

set_option Elab.async false
set_option linter.all false
set_option maxRecDepth 100000
/-! sums of the law; values that are none -/
namespace K05
open PySem PySem.Spec PyProof.Rows L2 Kw
section
variable {μ : Mem} {rs : List (List Int)} {cs : List Int} {n : Nat}
theorem lsums_run {d : D} (ok : RowsOk n rs) (h : Oh cs d) : callP f__law_sums [.lst (rs.map oT), d] μ = .ok (oT (rs.map fun r => prodI r cs)) μ := by
  have vd := h.pl.vo
  have sq := h.sq
  have pl : Pl (.lst (rs.map oT)) := .lst (locBs_all fun x hx => by
    obtain ⟨z, _, rfl⟩ := List.mem_map.mp hx
    exact pl_oT z)
  refine callP_ok (μ' := []) (body_ret (N := 5) (δ := [some (.lst (rs.map oT)), some d, none, none, none]) rfl ?_) (pl.ls (h.pl.ls rfl)) (pl_oT _).lc
  have e := lcL_map (e := oT) (f := fun r => D.int (prodI r cs)) (me := (e2 gMod (eAs gInt (aCons (eAs gSum (aCons (eLc (iZip2 (aCons (eVar 2) (aCons (eVar 1) aNil))) (gSeq 2 (gsCons (gNm 3) (gsCons (gNm 4) gsNil))) tYesM (e2 gMul (eVar 3) (eVar 4)) [3, 4]) aNil)) aNil)) (eC (.int 257)))) (δ := [some (.lst (rs.map oT)), some d, none, none, none]) (μ := []) (i := 2) rs (fun r hr => by
    obtain ⟨rl, rc⟩ := ok.2.2 r hr
    have c := zip_mul (b := cs) rc (δ := [some (.lst (rs.map oT)), some d, some (oT r), none, none]) (μ := []) (i := 3) (j := 4) (by decide) (by simp) (by simp)
    have hw : wipeD [some (.lst (rs.map oT)), some d, some (oT r), none, none] [3, 4] = [some (.lst (rs.map oT)), some d, some (oT r), none, none] := rfl
    have vr : ∀ μ, vOf (some (some (oT r))) μ = .ok (oT r) μ := fun _ => rfl
    have sr : seqV (oT r) = some (r.map D.int) := rfl
    have iz : iZip2 (aCons (eVar 2) (aCons (eVar 1) aNil)) [some (.lst (rs.map oT)), some d, some (oT r), none, none] [] = .ok (zipD (r.map D.int) (cs.map D.int)) [] := by
      generalize D.lst (rs.map oT) = tl at *
      generalize oT r = tr at *
      simp [eVar_run, vr, vd, sr, sq]
    have lc : (eLc (iZip2 (aCons (eVar 2) (aCons (eVar 1) aNil))) (gSeq 2 (gsCons (gNm 3) (gsCons (gNm 4) gsNil))) tYesM (e2 gMul (eVar 3) (eVar 4)) [3, 4]) [some (.lst (rs.map oT)), some d, some (oT r), none, none] [] = .ok (.lst ((List.zipWith (fun x y => x * y) r cs).map D.int)) [] := by
      rw [eLc_run, iz, bind_ok, hw, c]
      simp only
      rw [if_pos (szN (by have := ok.2.1; simp; omega))]
    have sm := sum_run (List.zipWith (fun x y => x * y) r cs) []
    show (e2 gMod (eAs gInt (aCons (eAs gSum (aCons (eLc (iZip2 (aCons (eVar 2) (aCons (eVar 1) aNil))) (gSeq 2 (gsCons (gNm 3) (gsCons (gNm 4) gsNil))) tYesM (e2 gMul (eVar 3) (eVar 4)) [3, 4]) aNil)) aNil)) (eC (.int 257))) [some (.lst (rs.map oT)), some d, some (oT r), none, none] [] = _
    unfold prodI
    generalize (List.zipWith (fun x y => x * y) r cs).sum = tot at *
    generalize (List.zipWith (fun x y => x * y) r cs).map D.int = zs at *
    generalize (eLc (iZip2 (aCons (eVar 2) (aCons (eVar 1) aNil))) (gSeq 2 (gsCons (gNm 3) (gsCons (gNm 4) gsNil))) tYesM (e2 gMul (eVar 3) (eVar 4)) [3, 4]) = ee at *
    simp [lc, sm, gMod_int])
  have vl : ∀ μ, vOf (some (some (.lst (rs.map oT)))) μ = .ok (.lst (rs.map oT)) μ := fun _ => rfl
  have sl : seqV (.lst (rs.map oT)) = some (rs.map oT) := rfl
  have it : iSeq (eVar 0) [some (.lst (rs.map oT)), some d, none, none, none] [] = .ok (rs.map oT) [] := by
    generalize hl : D.lst (rs.map oT) = tl at *
    generalize rs.map oT = rr at *
    simp [eVar_run, vl, sl]
  have hw : wipeD [some (.lst (rs.map oT)), some d, none, none, none] [2] = [some (.lst (rs.map oT)), some d, none, none, none] := rfl
  have gt : gTuple [oL (rs.map fun r => prodI r cs)] ([] : Mem) = some (oT (rs.map fun r => prodI r cs)) := rfl
  have eo : (rs.map fun r => D.int (prodI r cs)) = (rs.map fun r => prodI r cs).map D.int := by rw [List.map_map]; rfl
  unfold m__law_sums
  rw [sRet_run, eAs_run, aCons_run, eLc_run, it, bind_ok, hw, e, eo]
  simp only
  rw [if_pos (szN (by have := ok.1; simp; omega))]
  simp [gt]
/-! ### what is heard -/
theorem heard {μ μ' : Mem} {ask : AskM} {v : D} {s : Str} (h : ask μ = .exc (refu v) μ') (hr : gRepr [v] μ' = some (.str s)) : f__law_refused ask μ = .ok (.tup [.str "refused", .str s, .bl true]) μ' := by
  refine bodyH_ret ?_
  show m__law_refused ask [some .lam, none] μ = _
  unfold m__law_refused
  rw [sSeq_run, tryU_exc (x := refu v) (δ' := [some .lam, none]) (μ' := μ') (by simp [h])]
  have lk : List.lookup ("at" : Str) [(("at" : Str), v)] = some v := by simp [List.lookup]
  have key : ∀ (o : SOut) (d : D) (k : SM), o = .ret d μ' → o.then k = .ret d μ' := fun o d k e => by rw [e]; rfl
  refine key _ _ _ (goH_ret (by rfl) rfl ?_)
  simp [refu, lk, hr, gTupD_run]
end
end K05

set_option Elab.async false
set_option linter.all false
set_option maxRecDepth 100000
/-! values that are none -/
namespace K05
open PySem PySem.Spec PyProof.Rows L2 Kw
theorem iS {n w : Nat} {i : Int} (h : i.natAbs < 2305843009213693952) : Sb n w (.int i) := .int (Nat.lt_of_lt_of_le h (by decide +kernel))
theorem sbL {n w : Nat} {xs : List D} (h : ∀ x ∈ xs, Sb n 0 x) (hl : xs.length ≤ w) : Sb (n + 1) w (.lst xs) := .lst (w := 0) h (by omega)
theorem sbT {n w : Nat} {xs : List D} (h : ∀ x ∈ xs, Sb n 0 x) (hl : xs.length ≤ w) : Sb (n + 1) w (.tup xs) := .tup (w := 0) h (by omega)
/-- a value of two levels, refused as a table -/
def BadT (d : D) : Prop := Pl d ∧ (∀ x ∈ itD d, Pv x) ∧ (itD d).length ≤ 1000000 ∧ tabB d = false ∧ Sb 2 1000 d
theorem pvA {d : D} (h : Pl d) (hi : itD d = []) : Pv d := ⟨h, fun x hx => by rw [hi] at hx; exact absurd hx (List.not_mem_nil), by rw [hi]; simp⟩
theorem pvL {xs : List D} (h : ∀ x ∈ xs, Pl x) (hl : xs.length ≤ 1000) : Pv (.lst xs) := ⟨.lst (locBs_all h), h, by show xs.length ≤ _; omega⟩
theorem pvT {xs : List D} (h : ∀ x ∈ xs, Pl x) (hl : xs.length ≤ 1000) : Pv (.tup xs) := ⟨.tup (locBs_all h), h, by show xs.length ≤ _; omega⟩
theorem plI {zs : List Int} : ∀ x ∈ zs.map D.int, Pl x := fun x hx => by
  obtain ⟨z, _, rfl⟩ := List.mem_map.mp hx
  exact .int
theorem badL {xs : List D} (hp : ∀ x ∈ xs, Pv x) (hs : ∀ x ∈ xs, Sb 1 50 x) (hl : xs.length ≤ 12) (h : tabB (.lst xs) = false) : BadT (.lst xs) :=
  ⟨.lst (locBs_all fun x hx => (hp x hx).1), hp, by show xs.length ≤ _; omega, h, .lst (w := 50) hs (by omega)⟩
theorem sb_cells {zs : List Int} (h : Cells zs) (hl : zs.length ≤ 50) : Sb 1 50 (oL zs) := sbL (fun x hx => by
  obtain ⟨z, hz, rfl⟩ := List.mem_map.mp hx
  have := h z hz
  exact iS (by omega)) (by simpa using hl)
theorem rep_cells {n : Nat} {x : D} (hn : 1 ≤ n) (h : belD 257 x = false) (m : Nat) : blkB m (.lst (List.replicate n x)) = false := by
  unfold blkB
  have : ((itD (.lst (List.replicate n x))).all (belD 257)) = false := by
    show ((List.replicate n x).all (belD 257)) = false
    rw [List.all_eq_false]
    exact ⟨x, List.mem_replicate.mpr ⟨by omega, rfl⟩, by rw [h]; decide⟩
  rw [this]
  simp
theorem one_row {y : D} (h : ∀ m, blkB m y = false) : tabB (.lst [y]) = false := by
  unfold tabB
  have : (itD (.lst [y])).all (blkB (itD (firD (.lst [y]))).length) = false := by
    show ([y].all _) = false
    rw [List.all_cons, h]
    rfl
  rw [this]
  simp
section
variable {rs : List (List Int)} {n : Nat} {r0 : List Int} {rr : List (List Int)}
def wrongs (rs : List (List Int)) (r0 : List Int) (n : Nat) : List D := [.non, .int 0, .str "", .tup [], .lst [.tup []], .lst (rs.map oL ++ [oL (r0 ++ [0])]), .lst (rs.map oL ++ [oL (r0.drop 1)]), .lst [.lst (List.replicate n (.int 257))], .lst [.lst (List.replicate n (.bl true))], .lst [.lst (List.replicate n (.int (-1)))], .lst [.str (Txt.mul "0" (n : Int))]]
def wrong2 (r0 : List Int) (n : Nat) : List D := [.lst (List.replicate 9 (oL r0)), .lst [.lst (List.replicate 13 (.int 0))], .lst (List.replicate n (.int 0)), .lst [.non]]
theorem zeros (n : Nat) (h : n ≤ 5) (h1 : 1 ≤ n) : Sb 1 50 (.str (Txt.mul "0" (n : Int))) ∧ Sb 1 50 (.str (Txt.mul "0" (n : Int))) := by
  have : Sb 1 50 (.str (Txt.mul "0" (n : Int))) := by
    have c : n = 1 ∨ n = 2 ∨ n = 3 ∨ n = 4 ∨ n = 5 := by omega
    rcases c with rfl | rfl | rfl | rfl | rfl <;> exact .str (by decide +kernel)
  exact ⟨this, this⟩
theorem row_len {x : D} {zs : List Int} (h : Oh zs x) (m : Nat) (hm : zs.length ≠ m) : blkB m x = false := by
  unfold blkB
  rw [h.it.1, h.it.2, List.length_map, decide_eq_false hm]
  rfl
theorem longer (ok : RowsOk n (r0 :: rr)) {zs : List Int} (hz : zs.length ≠ n) : tabB (.lst ((r0 :: rr).map oL ++ [oL zs])) = false := by
  unfold tabB
  have hf : (itD (firD (.lst ((r0 :: rr).map oL ++ [oL zs])))).length = n := by
    show (r0.map D.int).length = n
    rw [List.length_map]
    exact (ok.2.2 r0 (.head _)).1
  have : (itD (.lst ((r0 :: rr).map oL ++ [oL zs]))).all (blkB (itD (firD (.lst ((r0 :: rr).map oL ++ [oL zs])))).length) = false := by
    rw [hf]
    show (((r0 :: rr).map oL ++ [oL zs]).all (blkB n)) = false
    rw [List.all_append, List.all_cons, row_len (.l (zs := zs)) n hz]
    simp
  rw [this]
  simp
theorem wrong_ok (ok : RowsOk n (r0 :: rr)) (hn : n ≤ 5) : ∀ d ∈ wrongs (r0 :: rr) r0 n ++ wrong2 r0 n, BadT d := fun d hd => by
  obtain ⟨o1, o2, o3⟩ := ok
  obtain ⟨l0, c0⟩ := o3 r0 (.head _)
  have c01 : Cells (r0 ++ [0]) := fun x hx => by
    rcases List.mem_append.mp hx with h | h
    · exact c0 x h
    · rw [List.mem_singleton.mp h]; omega
  have cd : Cells (r0.drop 1) := fun x hx => c0 x (List.mem_of_mem_drop hx)
  have rows : ∀ zs : List Int, Cells zs → zs.length ≤ 50 → zs.length ≠ n → BadT (.lst ((r0 :: rr).map oL ++ [oL zs])) := fun zs hc hl hne => badL (fun x hx => by
    rcases List.mem_append.mp hx with h | h
    · obtain ⟨r, hr, rfl⟩ := List.mem_map.mp h
      exact pvL plI (by have := (o3 r hr).1; simp; omega)
    · rw [List.mem_singleton.mp h]; exact pvL plI (by simp; omega)) (fun x hx => by
    rcases List.mem_append.mp hx with h | h
    · obtain ⟨r, hr, rfl⟩ := List.mem_map.mp h
      exact sb_cells (o3 r hr).2 (by have := (o3 r hr).1; omega)
    · rw [List.mem_singleton.mp h]; exact sb_cells hc hl) (by simp at o1 ⊢; omega) (longer ⟨o1, o2, o3⟩ hne)
  have one : ∀ x : D, Pl x → (∀ m w, Sb m w x) → belD 257 x = false → BadT (.lst [.lst (List.replicate n x)]) := fun x hx hs hb => badL (fun y hy => by
    rw [List.mem_singleton.mp hy]
    exact pvL (fun z hz => by rw [List.eq_of_mem_replicate hz]; exact hx) (by simp; omega)) (fun y hy => by
    rw [List.mem_singleton.mp hy]
    exact sbL (fun z hz => by rw [List.eq_of_mem_replicate hz]; exact hs _ _) (by simp; omega)) (by simp) (one_row fun m => rep_cells o2.1 hb m)
  simp only [wrongs, wrong2, List.mem_append, List.mem_cons, List.not_mem_nil, or_false] at hd
  rcases hd with (rfl | rfl | rfl | rfl | rfl | rfl | rfl | rfl | rfl | rfl | rfl) | (rfl | rfl | rfl | rfl)
  · exact ⟨.non, fun x h => absurd h (List.not_mem_nil), by simp [itD], rfl, .non⟩
  · exact ⟨.int, fun x h => absurd h (List.not_mem_nil), by simp [itD], rfl, iS (by decide)⟩
  · exact ⟨.str, fun x h => absurd h (List.not_mem_nil), by simp [itD], rfl, .str (by decide +kernel)⟩
  · exact ⟨.tup rfl, fun x h => absurd h (List.not_mem_nil), by simp [itD], rfl, sbT (fun x h => absurd h (List.not_mem_nil)) (by simp)⟩
  · exact badL (fun y hy => by rw [List.mem_singleton.mp hy]; exact pvA (.tup rfl) rfl) (fun y hy => by rw [List.mem_singleton.mp hy]; exact sbT (fun x h => absurd h (List.not_mem_nil)) (by simp)) (by simp) rfl
  · exact rows _ c01 (by simp; omega) (by simp; omega)
  · exact rows _ cd (by simp; omega) (by simp; omega)
  · exact one _ .int (fun _ _ => iS (by decide)) (by decide)
  · exact one _ .bl (fun _ _ => .bl) rfl
  · exact one _ .int (fun _ _ => iS (by decide)) (by decide)
  · exact badL (fun y hy => by rw [List.mem_singleton.mp hy]; exact pvA .str rfl) (fun y hy => by rw [List.mem_singleton.mp hy]; exact (zeros n hn o2.1).1) (by simp) rfl
  · refine badL (fun y hy => by rw [List.eq_of_mem_replicate hy]; exact pvL plI (by simp; omega)) (fun y hy => by rw [List.eq_of_mem_replicate hy]; exact sb_cells c0 (by omega)) (by simp) ?_
    unfold tabB
    have : ¬ (1 ≤ (itD (.lst (List.replicate 9 (oL r0)))).length ∧ (itD (.lst (List.replicate 9 (oL r0)))).length ≤ 8) := by show ¬ (1 ≤ (List.replicate 9 (oL r0)).length ∧ (List.replicate 9 (oL r0)).length ≤ 8); simp
    rw [decide_eq_false this]
    simp
  · exact badL (fun y hy => by
      rw [List.mem_singleton.mp hy]
      exact pvL (fun z hz => by rw [List.eq_of_mem_replicate hz]; exact .int) (by simp)) (fun y hy => by
      rw [List.mem_singleton.mp hy]
      exact sbL (fun z hz => by rw [List.eq_of_mem_replicate hz]; exact iS (by decide)) (by simp)) (by simp) (by decide +kernel)
  · refine badL (fun y hy => by rw [List.eq_of_mem_replicate hy]; exact pvA .int rfl) (fun y hy => by rw [List.eq_of_mem_replicate hy]; exact iS (by decide)) (by simp; omega) ?_
    unfold tabB
    have : isSeqD (firD (.lst (List.replicate n (.int 0)))) = false := by
      match n, o2.1 with
      | m + 1, _ => rfl
    rw [this]
    simp
  · exact badL (fun y hy => by rw [List.mem_singleton.mp hy]; exact pvA .non rfl) (fun y hy => by rw [List.mem_singleton.mp hy]; exact .non) (by simp) rfl
/-! the others -/
def Bad1 (f : D → Bool) (d : D) : Prop := Pl d ∧ (∀ x ∈ itD d, Pl x) ∧ (itD d).length ≤ 1000000 ∧ f d = false ∧ Sb 1 50 d
def odds (n : Nat) : List D := [.non, .tup (List.replicate (n + 1) (.int 0)), .tup (List.replicate n (.int 257)), .tup (List.replicate n (.bl true)), .str (Txt.mul "0" (n : Int)), .int 0, .lst (List.replicate n .non)]
theorem odds_ok (h1 : 1 ≤ n) (hn : n ≤ 5) : ∀ d ∈ odds n, Bad1 (blkB n) d := fun d hd => by
  have tp : ∀ (k : Nat) (x : D), k ≤ 6 → Pl x → (∀ m w, Sb m w x) → blkB n (.tup (List.replicate k x)) = false → Bad1 (blkB n) (.tup (List.replicate k x)) := fun k x hk hx hs hb => by
    obtain ⟨q1, q2, q3⟩ := pvT (xs := List.replicate k x) (fun z hz => by rw [List.eq_of_mem_replicate hz]; exact hx) (by simp; omega)
    exact ⟨q1, q2, q3, hb, sbT (fun z hz => by rw [List.eq_of_mem_replicate hz]; exact hs _ _) (by simp; omega)⟩
  have rt : ∀ x : D, belD 257 x = false → blkB n (.tup (List.replicate n x)) = false := fun x h => by
    unfold blkB
    have : ((itD (.tup (List.replicate n x))).all (belD 257)) = false := by
      show ((List.replicate n x).all (belD 257)) = false
      rw [List.all_eq_false]
      exact ⟨x, List.mem_replicate.mpr ⟨by omega, rfl⟩, by rw [h]; decide⟩
    rw [this]
    simp
  simp only [odds, List.mem_cons, List.not_mem_nil, or_false] at hd
  rcases hd with rfl | rfl | rfl | rfl | rfl | rfl | rfl
  · exact ⟨.non, fun x h => absurd h (List.not_mem_nil), by simp [itD], rfl, .non⟩
  · refine tp _ _ (by omega) .int (fun _ _ => iS (by decide)) ?_
    unfold blkB
    have : ¬ (itD (.tup (List.replicate (n + 1) (.int 0)))).length = n := by show ¬ (List.replicate (n + 1) (D.int 0)).length = n; simp
    rw [decide_eq_false this]
    rfl
  · exact tp _ _ (by omega) .int (fun _ _ => iS (by decide)) (rt _ (by decide))
  · exact tp _ _ (by omega) .bl (fun _ _ => .bl) (rt _ rfl)
  · exact ⟨.str, fun x h => absurd h (List.not_mem_nil), by simp [itD], rfl, (zeros n hn h1).1⟩
  · exact ⟨.int, fun x h => absurd h (List.not_mem_nil), by simp [itD], rfl, iS (by decide)⟩
  · obtain ⟨q1, q2, q3⟩ := pvL (xs := List.replicate n .non) (fun z hz => by rw [List.eq_of_mem_replicate hz]; exact .non) (by simp; omega)
    exact ⟨q1, q2, q3, rep_cells h1 rfl n, sbL (fun z hz => by rw [List.eq_of_mem_replicate hz]; exact .non) (by simp; omega)⟩
def somes : List D := [.non, .tup [], .tup [.int 257], .lst (List.replicate 13 (.int 0)), .str "1", .int 3, .tup [.bl true]]
theorem somes_ok : ∀ d ∈ somes, Bad1 ptsB d := fun d hd => by
  simp only [somes, List.mem_cons, List.not_mem_nil, or_false] at hd
  rcases hd with rfl | rfl | rfl | rfl | rfl | rfl | rfl
  · exact ⟨.non, fun x h => absurd h (List.not_mem_nil), by simp [itD], rfl, .non⟩
  · exact ⟨.tup rfl, fun x h => absurd h (List.not_mem_nil), by simp [itD], rfl, sbT (fun x h => absurd h (List.not_mem_nil)) (by simp)⟩
  · exact ⟨.tup rfl, fun x h => by rw [List.mem_singleton.mp h]; exact .int, by simp [itD], by decide +kernel, sbT (fun x h => by rw [List.mem_singleton.mp h]; exact iS (by decide)) (by simp)⟩
  · exact ⟨.lst rfl, fun x h => by rw [List.eq_of_mem_replicate h]; exact .int, by simp [itD], by decide +kernel, sbL (fun x h => by rw [List.eq_of_mem_replicate h]; exact iS (by decide)) (by simp)⟩
  · exact ⟨.str, fun x h => absurd h (List.not_mem_nil), by simp [itD], rfl, .str (by decide +kernel)⟩
  · exact ⟨.int, fun x h => absurd h (List.not_mem_nil), by simp [itD], rfl, iS (by decide)⟩
  · exact ⟨.tup rfl, fun x h => by rw [List.mem_singleton.mp h]; exact .bl, by simp [itD], by decide +kernel, sbT (fun x h => by rw [List.mem_singleton.mp h]; exact .bl) (by simp)⟩
def manys (m : Int) : List D := [.int 0, .int (m + 1), .non, .bl true, .str "2", .int (-1)]
theorem manys_ok {m : Int} (h : 0 ≤ m ∧ m ≤ 100) : ∀ d ∈ manys m, Bad1 (manyB m) d := fun d hd => by
  simp only [manys, List.mem_cons, List.not_mem_nil, or_false] at hd
  rcases hd with rfl | rfl | rfl | rfl | rfl | rfl
  · exact ⟨.int, fun x h => absurd h (List.not_mem_nil), by simp [itD], by simp [manyB], iS (by decide)⟩
  · exact ⟨.int, fun x h => absurd h (List.not_mem_nil), by simp [itD], by simp [manyB]; intro _; omega, iS (by omega)⟩
  · exact ⟨.non, fun x h => absurd h (List.not_mem_nil), by simp [itD], rfl, .non⟩
  · exact ⟨.bl, fun x h => absurd h (List.not_mem_nil), by simp [itD], rfl, .bl⟩
  · exact ⟨.str, fun x h => absurd h (List.not_mem_nil), by simp [itD], rfl, .str (by decide +kernel)⟩
  · exact ⟨.int, fun x h => absurd h (List.not_mem_nil), by simp [itD], by simp [manyB], iS (by decide)⟩
end
end K05

set_option Elab.async false
set_option linter.all false
set_option maxRecDepth 100000
/-! refusals, as the law draws them -/
namespace K05
open PySem PySem.Spec PyProof.Rows L2 Kw
def sn1 : SM := (sAsg (eLc (iSeq (e1 (gFld fldTab "rows") (eVar 1))) (gNm 10) tYesM (eAs gList (aCons (eVar 10) aNil)) [10]) (gNm 3))
def sn2 : SM := (sAsg (eAs gLstD (aCons (eC .non) (aCons (eC (.int 0)) (aCons (eC (.str "")) (aCons (eAs gTupD aNil) (aCons (eAs gLstD (aCons (eAs gTupD aNil) aNil)) (aCons (e2 gAdd (eVar 3) (eAs gLstD (aCons (e2 gAdd (e2 gIx (eVar 3) (eC (.int 0))) (eAs gLstD (aCons (eC (.int 0)) aNil))) aNil))) (aCons (e2 gAdd (eVar 3) (eAs gLstD (aCons (eSl (e2 gIx (eVar 3) (eC (.int 0))) (oSome (eC (.int 1))) oNo) aNil))) (aCons (eAs gLstD (aCons (e2 gRepA (eAs gLstD (aCons (eC (.int 257)) aNil)) (eVar 2)) aNil)) (aCons (eAs gLstD (aCons (e2 gRepA (eAs gLstD (aCons (eC (.bl true)) aNil)) (eVar 2)) aNil)) (aCons (eAs gLstD (aCons (e2 gRepA (eAs gLstD (aCons (e2 Kw.gSub (eC (.int 0)) (eC (.int 1))) aNil)) (eVar 2)) aNil)) (aCons (eAs gLstD (aCons (e2 gRepA (eC (.str "0")) (eVar 2)) aNil)) aNil)))))))))))) (gNm 4))
def sn3 : SM := (sAsg (eCallM f__law_pick (aCons (eVar 0) (aCons (e2 gAdd (eVar 4) (eAs gLstD (aCons (e2 gRepA (eSl (eVar 3) oNo (oSome (eC (.int 1)))) (eC (.int 9))) (aCons (eAs gLstD (aCons (e2 gRepA (eAs gLstD (aCons (eC (.int 0)) aNil)) (eC (.int 13))) aNil)) (aCons (e2 gRepA (eAs gLstD (aCons (eC (.int 0)) aNil)) (eVar 2)) (aCons (eAs gLstD (aCons (eC .non) aNil)) aNil)))))) aNil))) (gNm 5))
def sn4 : SM := (sIf (tBl (e2 gNe (eHrd f__law_refused (eMakeP f_Table___init__ "Table" gPos (aCons (eVar 5) aNil) aNil)) (eAs gTupD (aCons (eC (.str "refused")) (aCons (eAs gRepr (aCons (eVar 5) aNil)) (aCons (eC (.bl true)) aNil)))))) (sRet (eC (.bl false))) sNext)
def sn5 : SM := (sAsg (eCallM f__law_pick (aCons (eVar 0) (aCons (eAs gLstD (aCons (eC .non) (aCons (e2 gRepA (eAs gTupD (aCons (eC (.int 0)) aNil)) (e2 gAdd (eVar 2) (eC (.int 1)))) (aCons (e2 gRepA (eAs gTupD (aCons (eC (.int 257)) aNil)) (eVar 2)) (aCons (e2 gRepA (eAs gTupD (aCons (eC (.bl true)) aNil)) (eVar 2)) (aCons (e2 gRepA (eC (.str "0")) (eVar 2)) (aCons (eC (.int 0)) (aCons (e2 gRepA (eAs gLstD (aCons (eC .non) aNil)) (eVar 2)) aNil)))))))) aNil))) (gNm 6))
def sn6 : SM := (sIf (tBl (e2 gNe (eHrd f__law_refused (eCallP f_sums_of_cells (aCons (eVar 1) (aCons (eVar 6) aNil)))) (eAs gTupD (aCons (eC (.str "refused")) (aCons (eAs gRepr (aCons (eVar 6) aNil)) (aCons (eC (.bl true)) aNil)))))) (sRet (eC (.bl false))) sNext)
def sn7 : SM := (sAsg (eAs gTupD (aCons (eCallM f__law_pick (aCons (eVar 0) (aCons (eAs gLstD (aCons (eC .non) (aCons (eAs gTupD aNil) (aCons (eAs gTupD (aCons (eC (.int 257)) aNil)) (aCons (e2 gRepA (eAs gLstD (aCons (eC (.int 0)) aNil)) (eC (.int 13))) (aCons (eC (.str "1")) (aCons (eC (.int 3)) (aCons (eAs gTupD (aCons (eC (.bl true)) aNil)) aNil)))))))) aNil))) (aCons (eCallM f__law_pick (aCons (eVar 0) (aCons (eAs gLstD (aCons (eC (.int 0)) (aCons (eC (.int 9)) (aCons (eC .non) (aCons (eC (.bl true)) (aCons (eC (.str "2")) (aCons (e2 Kw.gSub (eC (.int 0)) (eC (.int 1))) aNil))))))) aNil))) aNil))) (gSeq 2 (gsCons (gNm 7) (gsCons (gNm 8) gsNil))))
def sn8 : SM := (sIf (tBl (e2 gNe (eHrd f__law_refused (eCallP f_points_table (aCons (eVar 7) (aCons (eVar 8) aNil)))) (eAs gTupD (aCons (eC (.str "refused")) (aCons (eAs gRepr (aCons (eVar 7) aNil)) (aCons (eC (.bl true)) aNil)))))) (sRet (eC (.bl false))) sNext)
def sn9 : SM := (sIf (tBl (e2 gNe (eHrd f__law_refused (eCallP f_points_table (aCons (eAs gLstD (aCons (eC (.int 1)) (aCons (eC (.int 2)) aNil))) (aCons (eVar 8) aNil)))) (eAs gTupD (aCons (eC (.str "refused")) (aCons (eAs gRepr (aCons (eVar 8) aNil)) (aCons (eC (.bl true)) aNil)))))) (sRet (eC (.bl false))) sNext)
def sn10 : SM := (sAsg (eCallM f__law_pick (aCons (eVar 0) (aCons (eAs gLstD (aCons (eC (.int 0)) (aCons (eC (.int 13)) (aCons (eC .non) (aCons (eC (.bl true)) (aCons (eC (.str "2")) (aCons (e2 Kw.gSub (eC (.int 0)) (eC (.int 1))) aNil))))))) aNil))) (gNm 9))
def sn11 : SM := (sIf (tBl (e2 gNe (eHrd f__law_refused (eCallP f_power_table (aCons (eVar 9) (aCons (eVar 8) aNil)))) (eAs gTupD (aCons (eC (.str "refused")) (aCons (eAs gRepr (aCons (eVar 9) aNil)) (aCons (eC (.bl true)) aNil)))))) (sRet (eC (.bl false))) sNext)
def sn12 : SM := (sRet (e2 gEq (eHrd f__law_refused (eCallP f_power_table (aCons (eC (.int 2)) (aCons (eVar 8) aNil)))) (eAs gTupD (aCons (eC (.str "refused")) (aCons (eAs gRepr (aCons (eVar 8) aNil)) (aCons (eC (.bl true)) aNil))))))
theorem sn_f : m__law_none_right = (sSeq sn1 (sSeq sn2 (sSeq sn3 (sSeq sn4 (sSeq sn5 (sSeq sn6 (sSeq sn7 (sSeq sn8 (sSeq sn9 (sSeq sn10 (sSeq sn11 sn12))))))))))) := rfl
section
variable {μ : Mem} {l n : Nat} {r0 : List Int} {rr : List (List Int)}
abbrev slN (l : Nat) (t : D) (n : Nat) (o3 o4 o5 o6 o7 o8 o9 o10 : Option D) : Sv := [some (.loc l), some t, some (.int (n : Int)), o3, o4, o5, o6, o7, o8, o9, o10]
theorem ne_ref (s : Str) (hs : PyData.strOk s = true) (μ : Mem) : gNe (.tup [.str "refused", .str s, .bl true]) (.tup [.str "refused", .str s, .bl true]) μ = some (.bl false) ∧ gEq (.tup [.str "refused", .str s, .bl true]) (.tup [.str "refused", .str s, .bl true]) μ = some (.bl true) := by
  have e : El 1 (.tup [.str "refused", .str s, .bl true]) := El.tup (n := 0) (fun x hx => by
    simp only [List.mem_cons, List.not_mem_nil, or_false] at hx
    rcases hx with rfl | rfl | rfl
    · exact .str (by decide +kernel)
    · exact .str hs
    · exact .bl)
  exact ⟨e.ne (by omega) μ, by unfold gEq; rw [e.eqs (by omega) μ]⟩
/-- a suite that hears a refusal -/
theorem hear {A B : Nat} (hA : A ≤ 60) (hB : B ≤ 28000) {a : EM} {i : Nat} {δ : Sv} {v : D} (hv : ∀ μ, eVar i δ μ = .ok v μ) (ha : ∀ μ, a δ μ = .exc (refu v) μ) (hs : Sb A B v) : (sIf (tBl (e2 gNe (eHrd f__law_refused a) (eAs gTupD (aCons (eC (.str "refused")) (aCons (eAs gRepr (aCons (eVar i) aNil)) (aCons (eC (.bl true)) aNil)))))) (sRet (eC (.bl false))) sNext) δ μ = .nx δ μ := by
  obtain ⟨s, s1, s2, _⟩ := rep_neB hs hA hB
  have h := heard (ask := fun μ' => a δ μ') (μ := μ) (ha μ) (s2 μ)
  have n := fun μ => (ne_ref s s1 μ).1
  simp [h, hv, s2, gTupD_run, n]
theorem n1_run {t : D} (ok : RowsOk n (r0 :: rr)) (vt : ∀ μ, vOf (some (some t)) μ = .ok t μ) (ft : ∀ μ, gFld fldTab "rows" t μ = some (.tup ((r0 :: rr).map oT))) : sn1 (slN l t n none none none none none none none none) μ = .nx (slN l t n (some (.lst ((r0 :: rr).map oL))) none none none none none none none) μ := by
  have e := lcL_map (e := oT) (f := oL) (me := (eAs gList (aCons (eVar 10) aNil))) (δ := slN l t n none none none none none none none none) (μ := μ) (i := 10) (r0 :: rr) (fun r _ => by
    have gl : ∀ μ : Mem, gList [oT r] μ = some (oL r) := fun _ => rfl
    have vr : ∀ μ, vOf (some (some (oT r))) μ = .ok (oT r) μ := fun _ => rfl
    generalize oL r = t2 at *
    generalize oT r = t1 at *
    simp [eVar_run, vr, gl])
  have sq : seqV (.tup ((r0 :: rr).map oT)) = some ((r0 :: rr).map oT) := rfl
  have it : iSeq (e1 (gFld fldTab "rows") (eVar 1)) (slN l t n none none none none none none none none) μ = .ok ((r0 :: rr).map oT) μ := by
    unfold slN
    generalize D.tup ((r0 :: rr).map oT) = t1 at *
    generalize (r0 :: rr).map oT = t2 at *
    simp [eVar_run, vt, ft, sq]
  have hw : wipeD (slN l t n none none none none none none none none) [10] = slN l t n none none none none none none none none := rfl
  unfold sn1
  rw [sAsg_run, eLc_run, it, bind_ok, hw, e]
  simp only
  rw [if_pos (szN (by have := ok.1; simp at this ⊢; omega))]
  rfl
theorem rep0 (n : Nat) (hn : n ≤ 1000) (μ : Mem) : gRepA (.str "0") (.int (n : Int)) μ = some (.str (Txt.mul "0" (n : Int))) := by
  show gRep (.str "0") (.int (n : Int)) μ = _
  unfold gRep
  simp only
  rw [if_pos ⟨by omega, by omega, by decide⟩]
theorem n2_run {t : D} (ok : RowsOk n (r0 :: rr)) : sn2 (slN l t n (some (.lst ((r0 :: rr).map oL))) none none none none none none none) μ = .nx (slN l t n (some (.lst ((r0 :: rr).map oL))) (some (.lst (wrongs (r0 :: rr) r0 n))) none none none none none none) μ := by
  obtain ⟨o1, o2, o3⟩ := ok
  have l0 := (o3 r0 (.head _)).1
  have vr : ∀ μ, vOf (some (some (.lst ((r0 :: rr).map oL)))) μ = .ok (.lst ((r0 :: rr).map oL)) μ := fun _ => rfl
  have ix : ∀ μ, gIx (.lst ((r0 :: rr).map oL)) (.int 0) μ = some (oL r0) := fun μ => ix_nat (k := 0) (xs := (r0 :: rr).map oL) rfl
  have ad : ∀ μ, gAdd (oL r0) (.lst [.int 0]) μ = some (oL (r0 ++ [0])) := fun μ => by
    have e : oL (r0 ++ [0]) = .lst (r0.map D.int ++ [.int 0]) := by unfold oL; rw [List.map_append]; rfl
    rw [e]
    show (if _ then _ else _) = _
    rw [if_pos (szN (by simp; omega))]
  have ad2 : ∀ (x : D) μ, gAdd (.lst ((r0 :: rr).map oL)) (.lst [x]) μ = some (.lst ((r0 :: rr).map oL ++ [x])) := fun x μ => by
    show (if _ then _ else _) = _
    rw [if_pos (szN (by simp at o1 ⊢; omega))]
  have sl : ∀ μ, gSl (oL r0) (some 1) none μ = some (oL (r0.drop 1)) := fun μ => by
    show some (D.lst (Kw.cutD (r0.map D.int) (some ((1 : Nat) : Int)) none)) = _
    rw [cut_F, ← List.map_drop]
  have rp := fun (x : D) μ => gRepA_lst (x := x) (n := n) (by omega) μ
  have rs := fun μ => rep0 n (by omega) μ
  unfold sn2 slN wrongs
  generalize (r0 :: rr).map oL = R at *
  generalize oL (r0 ++ [0]) = u1 at *
  generalize oL (r0.drop 1) = u2 at *
  generalize oL r0 = u0 at *
  generalize Txt.mul "0" (n : Int) = u3 at *
  simp [eVar_run, vr, ix, ad, ad2, sl, rp, rs, gLstD_run, gTupD_run, eSl, oSome, oNo]
theorem n3_run {t bad : D} {μ1 : Mem} (ok : RowsOk n (r0 :: rr)) (p1 : callM f__law_pick [.loc l, .lst (wrongs (r0 :: rr) r0 n ++ wrong2 r0 n)] μ = .ok bad μ1) : sn3 (slN l t n (some (.lst ((r0 :: rr).map oL))) (some (.lst (wrongs (r0 :: rr) r0 n))) none none none none none none) μ = .nx (slN l t n (some (.lst ((r0 :: rr).map oL))) (some (.lst (wrongs (r0 :: rr) r0 n))) (some bad) none none none none none) μ1 := by
  obtain ⟨o1, o2, o3⟩ := ok
  have vr : ∀ μ, vOf (some (some (.lst ((r0 :: rr).map oL)))) μ = .ok (.lst ((r0 :: rr).map oL)) μ := fun _ => rfl
  have vw : ∀ μ, vOf (some (some (.lst (wrongs (r0 :: rr) r0 n)))) μ = .ok (.lst (wrongs (r0 :: rr) r0 n)) μ := fun _ => rfl
  have sl : ∀ μ, gSl (.lst ((r0 :: rr).map oL)) none (some 1) μ = some (.lst [oL r0]) := fun μ => by
    show some (D.lst (Kw.cutD ((r0 :: rr).map oL) none (some ((1 : Nat) : Int)))) = _
    rw [cut_T (by simp)]
    rfl
  have rp := fun (x : D) μ => gRepA_lst (x := x) (n := n) (by omega) μ
  have r9 : ∀ μ, gRepA (.lst [oL r0]) (.int 9) μ = some (.lst (List.replicate 9 (oL r0))) := fun μ => gRepA_lst (n := 9) (by omega) μ
  have r13 : ∀ μ, gRepA (.lst [.int 0]) (.int 13) μ = some (.lst (List.replicate 13 (.int 0))) := fun μ => gRepA_lst (n := 13) (by omega) μ
  have ad : ∀ μ, gAdd (.lst (wrongs (r0 :: rr) r0 n)) (.lst (wrong2 r0 n)) μ = some (.lst (wrongs (r0 :: rr) r0 n ++ wrong2 r0 n)) := fun μ => by
    show (if (wrongs (r0 :: rr) r0 n).length + (wrong2 r0 n).length ≤ sizeLine then some (D.lst (wrongs (r0 :: rr) r0 n ++ wrong2 r0 n)) else none) = _
    rw [if_pos (szN (by simp [wrongs, wrong2]))]
  have ew : ∀ (a b c : D), a = .lst (List.replicate 9 (oL r0)) → b = .lst (List.replicate 13 (.int 0)) → c = .lst (List.replicate n (.int 0)) → D.lst [a, .lst [b], c, .lst [.non]] = .lst (wrong2 r0 n) := fun a b c h1 h2 h3 => by rw [h1, h2, h3]; rfl
  have ew' := ew _ _ _ rfl rfl rfl
  unfold sn3 slN
  generalize (r0 :: rr).map oL = R at *
  generalize D.lst (wrongs (r0 :: rr) r0 n ++ wrong2 r0 n) = w12 at *
  generalize D.lst (wrong2 r0 n) = w2 at *
  generalize D.lst (wrongs (r0 :: rr) r0 n) = w1 at *
  generalize List.replicate 9 (oL r0) = u9 at *
  generalize List.replicate 13 (D.int 0) = u13 at *
  have rn := rp (.int 0)
  generalize List.replicate n (D.int 0) = un at *
  generalize oL r0 = u0 at *
  simp [eVar_run, vr, vw, sl, rn, r9, r13, gLstD_run, eSl, oSome, oNo, ew', ad, p1]
theorem n5_run {t odd : D} {o3 o4 o5 : Option D} {μ1 : Mem} (h1 : 1 ≤ n) (hn : n ≤ 100) (p1 : callM f__law_pick [.loc l, .lst (odds n)] μ = .ok odd μ1) : sn5 (slN l t n o3 o4 o5 none none none none none) μ = .nx (slN l t n o3 o4 o5 (some odd) none none none none) μ1 := by
  have rt : ∀ (x : D) (k : Nat) μ, 1 ≤ k → k ≤ 101 → gRepA (.tup [x]) (.int (k : Int)) μ = some (.tup (List.replicate k x)) := fun x k μ h h2 => by
    rw [gRepA_run (by omega) (by omega) (by simp)]
    rw [Int.toNat_natCast]
    congr 2
    simp
  have rn := fun (x : D) (μ : Mem) => rt x n μ
  have r0' := rep0 n (by omega)
  have en : ((n + 1 : Nat) : Int) = (n : Int) + 1 := by omega
  have rn1 : ∀ μ, gRepA (.tup [.int 0]) (.int ((n : Int) + 1)) μ = some (.tup (List.replicate (n + 1) (.int 0))) := fun μ => by
    have := rt (.int 0) (n + 1) μ (by omega) (by omega)
    rwa [en] at this
  have rl := fun μ => gRepA_lst (x := .non) (n := n) (by omega) μ
  have a1 := fun μ => rn (.int 257) μ h1 (by omega)
  have a2 := fun μ => rn (.bl true) μ h1 (by omega)
  unfold odds at p1
  unfold sn5 slN
  clear rn rt
  generalize List.replicate (n + 1) (D.int 0) = u1 at *
  generalize List.replicate n (D.int 257) = u2 at *
  generalize List.replicate n (D.bl true) = u3 at *
  generalize List.replicate n D.non = u4 at *
  generalize Txt.mul "0" (n : Int) = u5 at *
  simp [eVar_run, gLstD_run, gTupD_run, rn1, a1, a2, r0', rl, p1]
theorem n7_run {t sm no : D} {o3 o4 o5 o6 : Option D} {μ1 μ2 : Mem} (p1 : callM f__law_pick [.loc l, .lst somes] μ = .ok sm μ1) (p2 : callM f__law_pick [.loc l, .lst (manys 8)] μ1 = .ok no μ2) : sn7 (slN l t n o3 o4 o5 o6 none none none none) μ = .nx (slN l t n o3 o4 o5 o6 (some sm) (some no) none none) μ2 := by
  have r13 : ∀ μ, gRepA (.lst [.int 0]) (.int 13) μ = some (.lst (List.replicate 13 (.int 0))) := fun μ => gRepA_lst (n := 13) (by omega) μ
  have e9 : (8 : Int) + 1 = 9 := by decide
  unfold somes at p1
  unfold manys at p2
  rw [e9] at p2
  unfold sn7 slN
  generalize List.replicate 13 (D.int 0) = u13 at *
  simp [eVar_run, gLstD_run, gTupD_run, r13, p1, p2]
theorem n10_run {t mn : D} {o3 o4 o5 o6 o7 o8 : Option D} {μ1 : Mem} (p1 : callM f__law_pick [.loc l, .lst (manys 12)] μ = .ok mn μ1) : sn10 (slN l t n o3 o4 o5 o6 o7 o8 none none) μ = .nx (slN l t n o3 o4 o5 o6 o7 o8 (some mn) none) μ1 := by
  have e : (12 : Int) + 1 = 13 := by decide
  unfold manys at p1
  rw [e] at p1
  unfold sn10 slN
  simp [eVar_run, gLstD_run, p1]
theorem none_run (ok : RowsOk n (r0 :: rr)) (hn : n ≤ 5) (hb : Bxn 2 μ l) : ∃ μ', f__law_none_right [.loc l, tbl (r0 :: rr) n, .int (n : Int)] μ = .ok (.bl true) μ' ∧ Bxn 2 μ' l ∧ Stay l μ μ' := by
  obtain ⟨o1, o2, o3⟩ := id ok
  obtain ⟨bad, μ1, p1, m1, b1, s1⟩ := pickL (xs := wrongs (r0 :: rr) r0 n ++ wrong2 r0 n) hb (by simp [wrongs]) (by simp [wrongs, wrong2])
  obtain ⟨c1, c2, c3, c4, c5⟩ := wrong_ok ok hn bad m1
  obtain ⟨odd, μ2, p2, m2, b2, s2⟩ := pickL (xs := odds n) b1 (by simp [odds]) (by simp [odds])
  obtain ⟨d1, d2, d3, d4, d5⟩ := odds_ok o2.1 hn odd m2
  obtain ⟨sm, μ3, p3, m3, b3, s3⟩ := pickL (xs := somes) b2 (by simp [somes]) (by simp [somes])
  obtain ⟨e1, e2, e3, e4, e5⟩ := somes_ok sm m3
  obtain ⟨no, μ4, p4, m4, b4, s4⟩ := pickL (xs := manys 8) b3 (by simp [manys]) (by simp [manys])
  obtain ⟨f1, f2, f3, f4, f5⟩ := manys_ok (by omega) no m4
  obtain ⟨mn, μ5, p5, m5, b5, s5⟩ := pickL (xs := manys 12) b4 (by simp [manys]) (by simp [manys])
  obtain ⟨g1, g2, g3, g4, g5⟩ := manys_ok (by omega) mn m5
  obtain ⟨t, ht⟩ : ∃ t, t = tbl (r0 :: rr) n := ⟨_, rfl⟩
  have vt : ∀ μ, vOf (some (some t)) μ = .ok t μ := fun μ => by rw [ht]; rfl
  have ft : ∀ μ, gFld fldTab "rows" t μ = some (.tup ((r0 :: rr).map oT)) := fun μ => by rw [ht]; exact (tab_fld tok μ).1
  have h4 := fun μ => make_bad (μ := μ) (tab := fldTab) c1 c2 c3 c4
  have h6 := fun μ => sums_bad (μ := μ) tok (n := n) (rs := r0 :: rr) d1 d2 d3 d4
  rw [← ht] at h6
  have h8 := fun μ => points_bad (μ := μ) (tab := fldTab) e1 f1 e2 e3 e4
  have h9 := fun μ => points_many (μ := μ) (tab := fldTab) (.l (zs := [1, 2])) (fun x hx => by
    simp only [List.mem_cons, List.not_mem_nil, or_false] at hx
    rcases hx with rfl | rfl <;> omega) (by decide) f1 f4
  have h11 := fun μ => power_bad (μ := μ) (tab := fldTab) g1 f1 g4
  have h12 := fun μ => power_many (μ := μ) (tab := fldTab) (n := 2) (by decide) f1 f4
  rw [← e_init] at h4
  rw [← e_sums] at h6
  rw [← e_points] at h8 h9
  rw [← e_power] at h11 h12
  have vbad := c1.vo
  have vodd := d1.vo
  have vsm := e1.vo
  have vno := f1.vo
  have vmn := g1.vo
  have q4 := hear (μ := μ1) (by decide) (by decide) (a := (eMakeP f_Table___init__ "Table" gPos (aCons (eVar 5) aNil) aNil)) (i := 5) (δ := slN l t n (some (.lst ((r0 :: rr).map oL))) (some (.lst (wrongs (r0 :: rr) r0 n))) (some bad) none none none none none) (v := bad) (fun μ => by rw [eVar_run]; exact vbad μ) (fun μ => by
    unfold eMakeP slN
    generalize (r0 :: rr).map oL = R at *
    generalize wrongs (r0 :: rr) r0 n = W at *
    simp [eVar_run, vbad, h4]) c5
  have q6 := hear (μ := μ2) (by decide) (by decide) (a := (eCallP f_sums_of_cells (aCons (eVar 1) (aCons (eVar 6) aNil)))) (i := 6) (δ := slN l t n (some (.lst ((r0 :: rr).map oL))) (some (.lst (wrongs (r0 :: rr) r0 n))) (some bad) (some odd) none none none none) (v := odd) (fun μ => by rw [eVar_run]; exact vodd μ) (fun μ => by
    unfold slN
    generalize (r0 :: rr).map oL = R at *
    generalize wrongs (r0 :: rr) r0 n = W at *
    simp [eVar_run, vt, vodd, h6]) d5
  have q8 := hear (μ := μ4) (by decide) (by decide) (a := (eCallP f_points_table (aCons (eVar 7) (aCons (eVar 8) aNil)))) (i := 7) (δ := slN l t n (some (.lst ((r0 :: rr).map oL))) (some (.lst (wrongs (r0 :: rr) r0 n))) (some bad) (some odd) (some sm) (some no) none none) (v := sm) (fun μ => by rw [eVar_run]; exact vsm μ) (fun μ => by
    unfold slN
    generalize (r0 :: rr).map oL = R at *
    generalize wrongs (r0 :: rr) r0 n = W at *
    simp [eVar_run, vsm, vno, h8]) e5
  have h9' : ∀ μ, callP f_points_table [.lst [.int 1, .int 2], no] μ = .exc (refu no) μ := h9
  have q9 := hear (μ := μ4) (by decide) (by decide) (a := (eCallP f_points_table (aCons (eAs gLstD (aCons (eC (.int 1)) (aCons (eC (.int 2)) aNil))) (aCons (eVar 8) aNil)))) (i := 8) (δ := slN l t n (some (.lst ((r0 :: rr).map oL))) (some (.lst (wrongs (r0 :: rr) r0 n))) (some bad) (some odd) (some sm) (some no) none none) (v := no) (fun μ => by rw [eVar_run]; exact vno μ) (fun μ => by
    unfold slN
    generalize (r0 :: rr).map oL = R at *
    generalize wrongs (r0 :: rr) r0 n = W at *
    simp [eVar_run, gLstD_run, vno, h9']) f5
  have q11 := hear (μ := μ5) (by decide) (by decide) (a := (eCallP f_power_table (aCons (eVar 9) (aCons (eVar 8) aNil)))) (i := 9) (δ := slN l t n (some (.lst ((r0 :: rr).map oL))) (some (.lst (wrongs (r0 :: rr) r0 n))) (some bad) (some odd) (some sm) (some no) (some mn) none) (v := mn) (fun μ => by rw [eVar_run]; exact vmn μ) (fun μ => by
    unfold slN
    generalize (r0 :: rr).map oL = R at *
    generalize wrongs (r0 :: rr) r0 n = W at *
    simp [eVar_run, vmn, vno, h11]) g5
  have st : Stay l μ μ5 := ((((s1.trans s2).trans s3).trans s4).trans s5)
  refine ⟨μ5, ?_, b5, st⟩
  refine body_ret (N := 11) (δ := slN l t n none none none none none none none none) (by rw [← ht]; rfl) ?_
  rw [sn_f, seq_nx (n1_run ok vt ft), seq_nx (n2_run ok), seq_nx (n3_run ok p1), seq_nx (show sn4 _ _ = _ from q4), seq_nx (n5_run o2.1 (by omega) p2), seq_nx (show sn6 _ _ = _ from q6), seq_nx (n7_run p3 p4), seq_nx (show sn8 _ _ = _ from q8), seq_nx (show sn9 _ _ = _ from q9), seq_nx (n10_run p5), seq_nx (show sn11 _ _ = _ from q11)]
  obtain ⟨s, s1', s2', _⟩ := rep_neB f5 (by omega) (by omega)
  have h := heard (ask := fun μ' => callP f_power_table [.int 2, no] μ') (μ := μ5) (h12 μ5) (s2' μ5)
  have n2 := fun μ => (ne_ref s s1' μ).2
  unfold sn12 slN
  generalize (r0 :: rr).map oL = R at *
  generalize wrongs (r0 :: rr) r0 n = W at *
  simp [eVar_run, vno, h, s2', gTupD_run, n2]
end
end K05

set_option Elab.async false
set_option linter.all false
set_option maxRecDepth 100000
/-! steps of a turn -/
namespace K05
open PySem PySem.Spec PyProof.Rows L2 Kw
def sb1 : SM := (sAsg (eCallM f__law_box (aCons (eVar 0) (aCons (eVar 1) aNil))) (gNm 2))
def sb2 : SM := (sPar 3 4 (aCons (e2 gAdd (eC (.int 1)) (eCallM f__law_take (aCons (eVar 2) (aCons (eC (.int 4)) aNil)))) (aCons (e2 gAdd (eC (.int 1)) (eCallM f__law_take (aCons (eVar 2) (aCons (eC (.int 5)) aNil)))) aNil)))
def sb3 : SM := (sAsg (eCallM f__law_rows (aCons (eVar 2) (aCons (eVar 3) (aCons (eVar 4) aNil)))) (gSeq 2 (gsCons (gNm 5) (gsCons (gNm 6) gsNil))))
def sb4 : SM := (sAsg (eMakeP f_Table___init__ "Table" gPos (aCons (eLc (iSeq (eVar 6)) (gNm 18) tYesM (eAs gList (aCons (eVar 18) aNil)) [18]) aNil) aNil) (gNm 7))
def sb5 : SM := (sIf (tOrM (tBl (e2 gNe (eAs gRepr (aCons (eAs gTupD (aCons (e1 (gFld fldTab "rows") (eVar 7)) (aCons (e1 (gFld fldTab "data") (eVar 7)) (aCons (e1 (gFld fldTab "sums") (eVar 7)) aNil)))) aNil)) (eAs gRepr (aCons (eAs gTupD (aCons (eAs gTuple (aCons (eVar 6) aNil)) (aCons (eVar 4) (aCons (eVar 3) aNil)))) aNil)))) (tBl (e2 gIsNot (eEqO callP f_Table___eq__ "Table" false (eVar 7) (eMakeP f_Table___init__ "Table" (gPerm [0, 1]) aNil (aCons (eAs gTuple (aCons (eVar 6) aNil)) aNil))) (eC (.bl true))))) (sRet (eC (.bl false))) sNext)
def sb6 : SM := (sAsg (e2 gAdd (eLc (iSeq (eSl (eVar 6) oNo (oSome (eC (.int 1))))) (gNm 18) tYesM (e2 gAdd (eAs gTuple (aCons (eAs gLstD (aCons (e2 gMod (eAs gInt (aCons (e2 gAdd (e2 gIx (eVar 18) (eC (.int 0))) (eC (.int 1))) aNil)) (eC (.int 257))) aNil)) aNil)) (eSl (eVar 18) (oSome (eC (.int 1))) oNo)) [18]) (eSl (eVar 6) (oSome (eC (.int 1))) oNo)) (gNm 8))
def sb7 : SM := (sIf (tOrM (tBl (e2 gIsNot (eEqO callP f_Table___eq__ "Table" false (eVar 7) (eMakeP f_Table___init__ "Table" gPos (aCons (eVar 8) aNil) aNil)) (eC (.bl false)))) (tBl (e2 gIsNot (eEqO callP f_Table___eq__ "Table" false (eVar 7) (eVar 6)) (eC (.bl false))))) (sRet (eC (.bl false))) sNext)
def sb8 : SM := (sPar 9 10 (aCons (eAs gTuple (aCons (eLc (iRange1 (aCons (eVar 4) aNil)) (gNm 19) tYesM (eCallM f__law_take (aCons (eVar 2) (aCons (eC (.int 257)) aNil))) [19]) aNil)) (aCons (eAs gTuple (aCons (eLc (iRange1 (aCons (eVar 4) aNil)) (gNm 19) tYesM (eCallM f__law_take (aCons (eVar 2) (aCons (eC (.int 257)) aNil))) [19]) aNil)) aNil)))
def sb9 : SM := (sAsg (eCallM f__law_take (aCons (eVar 2) (aCons (eC (.int 257)) aNil))) (gNm 11))
def sb10 : SM := (sIf (tOrM (tBl (e2 gNe (eAs gRepr (aCons (eCallP f_sums_of_cells (aCons (eVar 7) (aCons (eVar 9) aNil))) aNil)) (eAs gRepr (aCons (eCallP f__law_sums (aCons (eVar 6) (aCons (eVar 9) aNil))) aNil)))) (tBl (e2 gNe (eCallK0 f_sums_of_cells [1, 0] (aCons (eAs gList (aCons (eVar 9) aNil)) (aCons (eVar 7) aNil))) (eCallP f__law_sums (aCons (eVar 6) (aCons (eVar 9) aNil)))))) (sRet (eC (.bl false))) sNext)
def sb11 : SM := (sAsg (eAs gTuple (aCons (eLc (iZip2 (aCons (eVar 9) (aCons (eVar 10) aNil))) (gSeq 2 (gsCons (gNm 20) (gsCons (gNm 21) gsNil))) tYesM (e2 gMod (eAs gInt (aCons (e2 gAdd (eVar 20) (e2 gMul (eVar 11) (eVar 21))) aNil)) (eC (.int 257))) [20, 21]) aNil)) (gNm 12))
def sb12 : SM := (sAsg (eAs gTuple (aCons (eLc (iZip2 (aCons (eCallP f_sums_of_cells (aCons (eVar 7) (aCons (eVar 9) aNil))) (aCons (eCallP f_sums_of_cells (aCons (eVar 7) (aCons (eVar 10) aNil))) aNil))) (gSeq 2 (gsCons (gNm 20) (gsCons (gNm 21) gsNil))) tYesM (e2 gMod (eAs gInt (aCons (e2 gAdd (eVar 20) (e2 gMul (eVar 11) (eVar 21))) aNil)) (eC (.int 257))) [20, 21]) aNil)) (gNm 13))
def sb13 : SM := (sIf (tBl (e2 gNe (eCallP f_sums_of_cells (aCons (eVar 7) (aCons (eVar 12) aNil))) (eVar 13))) (sRet (eC (.bl false))) sNext)
def sb14 : SM := (sPar 14 15 (aCons (eAsM gNewL aNil) (aCons (e2 gRepA (eAs gLstD (aCons (eC (.int 1)) aNil)) (eVar 4)) aNil)))
def sb15 : SM := (sFor (iRange1 (aCons (eVar 3) aNil)) (gNm 16) m_law_b1)
def sb16 : SM := (sIf (tOrM (tBl (e2 gNe (e1 (gFld fldTab "rows") (eCallP f_points_table (aCons (eVar 5) (aCons (eVar 3) aNil)))) (eAs gTuple (aCons (eVar 14) aNil)))) (tBl (e2 gNe (e1 (gFld fldTab "rows") (eCallK0 f_points_table [1, 0] (aCons (eVar 3) (aCons (eAs gList (aCons (eVar 5) aNil)) aNil)))) (eAs gTuple (aCons (eVar 14) aNil))))) (sRet (eC (.bl false))) sNext)
def sb17 : SM := (sAsg (eLc (iRange1 (aCons (eVar 4) aNil)) (gNm 19) tYesM (e2 gAdd (e2 gMul (eC (.int 2)) (eVar 19)) (eC (.int 1))) [19]) (gNm 17))
def sb18 : SM := (sIf (tOrM (tBl (eEqO callP f_Table___eq__ "Table" true (eCallP f_power_table (aCons (eVar 4) (aCons (eVar 3) aNil))) (eCallP f_points_table (aCons (eVar 17) (aCons (eVar 3) aNil))))) (tBl (e2 gNe (e2 gIx (e1 (gFld fldTab "rows") (eCallK0 f_power_table [1, 0] (aCons (eVar 3) (aCons (eVar 4) aNil)))) (eC (.int 0))) (e2 gRepA (eAs gTupD (aCons (eC (.int 1)) aNil)) (eVar 4))))) (sRet (eC (.bl false))) sNext)
def sb19 : SM := (sIf (tNotM (tTru (eCallM f__law_none_right (aCons (eVar 2) (aCons (eVar 7) (aCons (eVar 4) aNil)))))) (sRet (eC (.bl false))) sNext)
theorem sb_f : m_law_b2 = (sSeq sb1 (sSeq sb2 (sSeq sb3 (sSeq sb4 (sSeq sb5 (sSeq sb6 (sSeq sb7 (sSeq sb8 (sSeq sb9 (sSeq sb10 (sSeq sb11 (sSeq sb12 (sSeq sb13 (sSeq sb14 (sSeq sb15 (sSeq sb16 (sSeq sb17 (sSeq sb18 sb19)))))))))))))))))) := rfl
/-! ### sums go on straight -/
def dotI (a b : List Int) : Int := (List.zipWith (fun x y => x * y) a b).sum
def mixI (t : Int) (a b : List Int) : List Int := List.zipWith (fun x y => (x + t * y) % 257) a b
theorem dot_mix (t : Int) : ∀ (r a b : List Int), a.length = b.length → ∃ q : Int, dotI r (mixI t a b) = dotI r a + t * dotI r b - 257 * q
  | [], _, _, _ => ⟨0, by simp [dotI]⟩
  | x :: r, [], [], _ => ⟨0, by simp [dotI, mixI]⟩
  | x :: r, y :: a, z :: b, h => by
    obtain ⟨q, e⟩ := dot_mix t r a b (by simpa using h)
    refine ⟨x * ((y + t * z) / 257) + q, ?_⟩
    have h1 : dotI (x :: r) (mixI t (y :: a) (z :: b)) = x * ((y + t * z) % 257) + dotI r (mixI t a b) := by simp [dotI, mixI]
    have h2 : dotI (x :: r) (y :: a) = x * y + dotI r a := by simp [dotI]
    have h3 : dotI (x :: r) (z :: b) = x * z + dotI r b := by simp [dotI]
    rw [h1, h2, h3, e]
    have h4 : (y + t * z) % 257 = (y + t * z) - 257 * ((y + t * z) / 257) := by have := Int.emod_add_mul_ediv (y + t * z) 257; omega
    rw [h4, Int.mul_sub, Int.mul_add, Int.mul_left_comm x t z, Int.mul_left_comm x 257, Int.mul_add t]
    omega
  | x :: r, [], _ :: _, h => by simp at h
  | x :: r, _ :: _, [], h => by simp at h
theorem prod_mix (t : Int) (r a b : List Int) (h : a.length = b.length) : prodI r (mixI t a b) = (prodI r a + t * prodI r b) % 257 := by
  obtain ⟨q, e⟩ := dot_mix t r a b h
  have e1 : prodI r (mixI t a b) = dotI r (mixI t a b) % 257 := rfl
  have e2 : prodI r a = dotI r a % 257 := rfl
  have e3 : prodI r b = dotI r b % 257 := rfl
  rw [e1, e2, e3, e, eadd_l, ← eadd_r, emod_r, eadd_r]
  omega
theorem prods_mix (t : Int) (rs : List (List Int)) (a b : List Int) (h : a.length = b.length) : (rs.map fun r => prodI r (mixI t a b)) = mixI t (rs.map fun r => prodI r a) (rs.map fun r => prodI r b) := by
  induction rs with
  | nil => rfl
  | cons r rs ih =>
    show prodI r (mixI t a b) :: _ = (prodI r a + t * prodI r b) % 257 :: _
    rw [ih, prod_mix t r a b h]
    rfl
theorem mix_cells (t : Int) (a b : List Int) : Cells (mixI t a b) := fun x hx => by
  unfold mixI at hx
  rw [← List.map_uncurry_zip_eq_zipWith] at hx
  obtain ⟨p, _, rfl⟩ := List.mem_map.mp hx
  exact ⟨Int.emod_nonneg _ (by decide), Int.emod_lt_of_pos _ (by decide)⟩
/-! ### own == -/
section
variable {μ : Mem} {rs qs : List (List Int)} {n m : Nat} {d : D}
theorem eqO_tab (ng : Bool) : eqO callP f_Table___eq__ "Table" ng (tbl rs n) (tbl qs m) μ = some (.bl ((rs == qs) != ng), μ) := by
  have h := tabeq_run (μ := μ) tok (rs := rs) (qs := qs) (n := n) (m := m)
  rw [← e_eq] at h
  have c : (isC "Table" μ (tbl rs n) && (isC "Table" μ (tbl qs m) || (tyS μ (tbl qs m)).isSome)) = true := rfl
  unfold eqO
  rw [if_pos c, h]
theorem eqO_no (hd : Pl d) (hi : insOf μ d = none) (ht : ∃ a, tyS μ d = some a) (h : ∀ μ, gIsiC "Table" d μ = some (.bl false)) : eqO callP f_Table___eq__ "Table" false (tbl rs n) d μ = some (.bl false, μ) := by
  have e := tabeq_no (μ := μ) tok (rs := rs) (n := n) hd h
  rw [← e_eq] at e
  obtain ⟨a, ha⟩ := ht
  have c : (isC "Table" μ (tbl rs n) && (isC "Table" μ d || (tyS μ d).isSome)) = true := by
    rw [ha, show isC "Table" μ (tbl rs n) = true from rfl]
    simp
  unfold eqO
  rw [if_pos c, e]
  rfl
@[simp] theorem eEqO_run {cl : FM → List D → Mem → Out D} {f : FM} {cn : Str} {ng : Bool} {ma mb : EM} {δ : Sv} : eEqO cl f cn ng ma mb δ μ = (ma δ μ).bind fun x μ1 => (mb δ μ1).bind fun y μ2 => oOfM (eqO cl f cn ng x y μ2) := rfl
@[simp] theorem eMakeP_run {f : FM} {cn : Str} {g : List D → List D → List D} {mr mk : AM} {δ : Sv} : eMakeP f cn g mr mk δ μ = (mr δ μ).bind fun ds μ1 => (mk δ μ1).bind fun es μ2 => mkP f cn g ds es μ2 := rfl
theorem mk_perm (f : FM) : mkP f "Table" (gPerm [0, 1]) [] [d] μ = mkP f "Table" gPos [d] [] μ := by
  unfold mkP
  have e1 : (locBs false 0 [] && locBs false 0 [d]) = (locBs false 0 [d] && locBs false 0 []) := Bool.and_comm _ _
  rw [e1]
  by_cases c : (locBs false 0 [d] && locBs false 0 []) = true
  · rw [if_pos c, if_pos c]; rfl
  · rw [if_neg c, if_neg c]
    have f0 : frzWs (frzL μ 4) [] = some [] := rfl
    rw [f0]
    cases h : frzWs (frzL μ 4) [d] with
    | none => rfl
    | some es =>
      have : ∃ e, es = [e] := by
        unfold frzWs at h
        rw [f0] at h
        cases h2 : frzW (frzL μ 4) d with
        | none => rw [h2] at h; cases h
        | some e => rw [h2] at h; cases h; exact ⟨e, rfl⟩
      obtain ⟨e, rfl⟩ := this
      rfl
end
end K05

set_option Elab.async false
set_option linter.all false
set_option maxRecDepth 100000
/-! the law -/
namespace K05
open PySem PySem.Spec PyProof.Rows L2 Kw
abbrev slB (ns : List Int) (k : Int) (o2 o3 o4 o5 o6 o7 o8 o9 o10 o11 o12 o13 o14 o15 o16 o17 : Option D) : Sv := [some (.scr (ns.map D.int)), some (.int k), o2, o3, o4, o5, o6, o7, o8, o9, o10, o11, o12, o13, o14, o15, o16, o17, none, none, none, none, none, none]
def othR : List (List Int) → List (List Int)
  | (x :: r) :: rr => ((x + 1) % 257 :: r) :: rr
  | rs => rs
section
variable {ns : List Int} {kk : Int} {μ : Mem} {l n : Nat} {ps : List Int} {rs : List (List Int)} {o2 o3 o4 o5 o6 o7 o8 o9 o10 o11 o12 o13 o14 o15 o16 o17 : Option D}
theorem vtab (rs : List (List Int)) (n : Nat) (μ : Mem) : vOf (some (some (tbl rs n))) μ = .ok (tbl rs n) μ := rfl
theorem vl (xs : List D) (μ : Mem) : vOf (some (some (.lst xs))) μ = .ok (.lst xs) μ := rfl
theorem vt (xs : List D) (μ : Mem) : vOf (some (some (.tup xs))) μ = .ok (.tup xs) μ := rfl
theorem b4_run (ok : RowsOk n rs) : sb4 (slB ns kk o2 o3 o4 o5 (some (.lst (rs.map oT))) o7 o8 o9 o10 o11 o12 o13 o14 o15 o16 o17) μ = .nx (slB ns kk o2 o3 o4 o5 (some (.lst (rs.map oT))) (some (tbl rs n)) o8 o9 o10 o11 o12 o13 o14 o15 o16 o17) μ := by
  have e := lcL_map (e := oT) (f := oL) (me := (eAs gList (aCons (eVar 18) aNil))) (δ := slB ns kk o2 o3 o4 o5 (some (.lst (rs.map oT))) o7 o8 o9 o10 o11 o12 o13 o14 o15 o16 o17) (μ := μ) (i := 18) rs (fun r _ => by
    have gl : ∀ μ : Mem, gList [oT r] μ = some (oL r) := fun _ => rfl
    have vr : ∀ μ, vOf (some (some (oT r))) μ = .ok (oT r) μ := fun _ => rfl
    generalize oL r = t2 at *
    generalize oT r = t1 at *
    simp [eVar_run, vr, gl])
  have it : iSeq (eVar 6) (slB ns kk o2 o3 o4 o5 (some (.lst (rs.map oT))) o7 o8 o9 o10 o11 o12 o13 o14 o15 o16 o17) μ = .ok (rs.map oT) μ := by
    have sq : seqV (.lst (rs.map oT)) = some (rs.map oT) := rfl
    have v := vl (rs.map oT)
    unfold slB
    generalize D.lst (rs.map oT) = t1 at *
    generalize rs.map oT = t2 at *
    simp [eVar_run, v, sq]
  have hw : wipeD (slB ns kk o2 o3 o4 o5 (some (.lst (rs.map oT))) o7 o8 o9 o10 o11 o12 o13 o14 o15 o16 o17) [18] = slB ns kk o2 o3 o4 o5 (some (.lst (rs.map oT))) o7 o8 o9 o10 o11 o12 o13 o14 o15 o16 o17 := rfl
  have lc : (eLc (iSeq (eVar 6)) (gNm 18) tYesM (eAs gList (aCons (eVar 18) aNil)) [18]) (slB ns kk o2 o3 o4 o5 (some (.lst (rs.map oT))) o7 o8 o9 o10 o11 o12 o13 o14 o15 o16 o17) μ = .ok (.lst (rs.map oL)) μ := by
    rw [eLc_run, it, bind_ok, hw, e]
    simp only
    rw [if_pos (szN (by have := ok.1; simp; omega))]
  have mk := make_rows (μ := μ) tok (.l (paired_map oL (fun r => .l) rs)) ok
  rw [← e_init] at mk
  unfold sb4
  generalize (eLc (iSeq (eVar 6)) (gNm 18) tYesM (eAs gList (aCons (eVar 18) aNil)) [18]) = ee at *
  unfold slB at lc ⊢
  generalize rs.map oL = t2 at *
  generalize tbl rs n = t3 at *
  generalize rs.map oT = t1 at *
  simp [lc, mk]
theorem b5_run (ok : RowsOk n rs) (hk : o3 = some (.int (rs.length : Int))) (hn : o4 = some (.int (n : Int))) : sb5 (slB ns kk o2 o3 o4 o5 (some (.lst (rs.map oT))) (some (tbl rs n)) o8 o9 o10 o11 o12 o13 o14 o15 o16 o17) μ = .nx (slB ns kk o2 o3 o4 o5 (some (.lst (rs.map oT))) (some (tbl rs n)) o8 o9 o10 o11 o12 o13 o14 o15 o16 o17) μ := by
  subst hk hn
  obtain ⟨o1, o2', o3'⟩ := id ok
  obtain ⟨s, _, s2, s3⟩ := rep_neB (n := 3) (w := 1000) (d := .tup [.tup (rs.map oT), .int (n : Int), .int (rs.length : Int)]) (.tup (w := 300) (fun x hx => by
    simp only [List.mem_cons, List.not_mem_nil, or_false] at hx
    rcases hx with rfl | rfl | rfl
    · refine .tup (w := 20) (fun y hy => ?_) (by simp; omega)
      obtain ⟨r, hr, rfl⟩ := List.mem_map.mp hy
      exact sbT (fun z hz => by
        obtain ⟨c, hc, rfl⟩ := List.mem_map.mp hz
        have := (o3' r hr).2 c hc
        exact iS (by omega)) (by have := (o3' r hr).1; simp; omega)
    · exact iS (by omega)
    · exact iS (by omega)) (by simp)) (by omega) (by omega)
  have f1 : ∀ μ, gFld fldTab "rows" (tbl rs n) μ = some (.tup (rs.map oT)) := fun μ => (tab_fld tok μ).1
  have f2 : ∀ μ, gFld fldTab "data" (tbl rs n) μ = some (.int (n : Int)) := fun μ => (tab_fld tok μ).2.1
  have f3 : ∀ μ, gFld fldTab "sums" (tbl rs n) μ = some (.int (rs.length : Int)) := fun μ => by
    have := (tab_fld (xs := rs.map oT) (n := n) tok μ).2.2
    rwa [List.length_map] at this
  have gt : ∀ μ, gTuple [.lst (rs.map oT)] μ = some (.tup (rs.map oT)) := fun _ => rfl
  have mk := fun μ => make_rows (μ := μ) tok (.t (paired_map oT (fun r => .t) rs)) ok
  rw [← e_init] at mk
  have mp := fun (f : FM) (d : D) μ => mk_perm (μ := μ) (d := d) f
  have eq := fun μ => eqO_tab (μ := μ) (rs := rs) (qs := rs) (n := n) (m := n) false
  have bb : ((rs == rs) != false) = true := by simp
  rw [bb] at eq
  have v1 := vtab rs n
  have v2 := vl (rs.map oT)
  have is1 : ∀ μ : Mem, gIsNot (.bl true) (.bl true) μ = some (.bl false) := fun _ => rfl
  unfold sb5 slB
  generalize D.lst (rs.map oT) = t1 at *
  generalize D.tup (rs.map oT) = t2 at *
  generalize tbl rs n = t3 at *
  generalize (rs.length : Int) = t4 at *
  simp [eVar_run, v1, v2, f1, f2, f3, gt, gTupD_run, s2, s3, mp, mk, eq, is1]
theorem b6_run {x : Int} {r : List Int} {rr : List (List Int)} (ok : RowsOk n ((x :: r) :: rr)) : sb6 (slB ns kk o2 o3 o4 o5 (some (.lst (((x :: r) :: rr).map oT))) o7 o8 o9 o10 o11 o12 o13 o14 o15 o16 o17) μ = .nx (slB ns kk o2 o3 o4 o5 (some (.lst (((x :: r) :: rr).map oT))) o7 (some (.lst ((((x + 1) % 257 :: r) :: rr).map oT))) o9 o10 o11 o12 o13 o14 o15 o16 o17) μ := by
  obtain ⟨o1, o2', o3'⟩ := id ok
  have rl := (o3' _ (.head _)).1
  have v2 := vl (((x :: r) :: rr).map oT)
  have s1 : ∀ μ, gSl (.lst (((x :: r) :: rr).map oT)) none (some 1) μ = some (.lst [oT (x :: r)]) := fun μ => by
    show some (D.lst (Kw.cutD (((x :: r) :: rr).map oT) none (some ((1 : Nat) : Int)))) = _
    rw [cut_T (by simp)]
    rfl
  have s2 : ∀ μ, gSl (.lst (((x :: r) :: rr).map oT)) (some 1) none μ = some (.lst (rr.map oT)) := fun μ => by
    show some (D.lst (Kw.cutD (((x :: r) :: rr).map oT) (some ((1 : Nat) : Int)) none)) = _
    rw [cut_F]
    rfl
  have ix : ∀ μ, gIx (oT (x :: r)) (.int 0) μ = some (.int x) := fun μ => ix_nat (k := 0) (xs := (x :: r).map D.int) rfl
  have s3 : ∀ μ, gSl (oT (x :: r)) (some 1) none μ = some (oT r) := fun μ => by
    show some (D.tup (Kw.cutD ((x :: r).map D.int) (some ((1 : Nat) : Int)) none)) = _
    rw [cut_F]
    rfl
  have gt : ∀ (d : D) (μ : Mem), gTuple [.lst [d]] μ = some (.tup [d]) := fun _ _ => rfl
  have ad : ∀ μ, gAdd (.tup [.int ((x + 1) % 257)]) (oT r) μ = some (oT ((x + 1) % 257 :: r)) := fun μ => by
    show (if _ then _ else _) = _
    rw [if_pos (szN (by simp at rl ⊢; omega))]
    rfl
  have ad2 : ∀ μ, gAdd (.lst [oT ((x + 1) % 257 :: r)]) (.lst (rr.map oT)) μ = some (.lst ((((x + 1) % 257 :: r) :: rr).map oT)) := fun μ => by
    show (if _ then _ else _) = _
    rw [if_pos (szN (by simp at o1 ⊢; omega))]
    rfl
  have sq : seqV (.lst [oT (x :: r)]) = some [oT (x :: r)] := rfl
  have vr : ∀ μ, vOf (some (some (oT (x :: r)))) μ = .ok (oT (x :: r)) μ := fun _ => rfl
  have lc : (eLc (iSeq (eSl (eVar 6) oNo (oSome (eC (.int 1))))) (gNm 18) tYesM (e2 gAdd (eAs gTuple (aCons (eAs gLstD (aCons (e2 gMod (eAs gInt (aCons (e2 gAdd (e2 gIx (eVar 18) (eC (.int 0))) (eC (.int 1))) aNil)) (eC (.int 257))) aNil)) aNil)) (eSl (eVar 18) (oSome (eC (.int 1))) oNo)) [18]) (slB ns kk o2 o3 o4 o5 (some (.lst (((x :: r) :: rr).map oT))) o7 o8 o9 o10 o11 o12 o13 o14 o15 o16 o17) μ = .ok (.lst [oT ((x + 1) % 257 :: r)]) μ := by
    unfold slB
    generalize D.lst (((x :: r) :: rr).map oT) = t1 at *
    generalize oT ((x + 1) % 257 :: r) = t4 at *
    generalize oT (x :: r) = t2 at *
    generalize oT r = t3 at *
    simp [wipeD, lcL, eVar_run, v2, eSl, oSome, oNo, s1, sq, vr, ix, s3, gMod_int, gLstD_run, gt, ad, sizeLine]
  unfold sb6
  generalize (eLc (iSeq (eSl (eVar 6) oNo (oSome (eC (.int 1))))) (gNm 18) tYesM (e2 gAdd (eAs gTuple (aCons (eAs gLstD (aCons (e2 gMod (eAs gInt (aCons (e2 gAdd (e2 gIx (eVar 18) (eC (.int 0))) (eC (.int 1))) aNil)) (eC (.int 257))) aNil)) aNil)) (eSl (eVar 18) (oSome (eC (.int 1))) oNo)) [18]) = ee at *
  unfold slB at lc ⊢
  generalize D.lst ((((x + 1) % 257 :: r) :: rr).map oT) = t5 at *
  generalize D.lst (((x :: r) :: rr).map oT) = t1 at *
  generalize D.lst (rr.map oT) = t6 at *
  generalize oT ((x + 1) % 257 :: r) = t4 at *
  simp [eVar_run, lc, v2, eSl, oSome, oNo, s2, ad2]
end
end K05

set_option Elab.async false
set_option linter.all false
set_option maxRecDepth 100000
/-! further steps -/
namespace K05
open PySem PySem.Spec PyProof.Rows L2 Kw
section
variable {ns : List Int} {kk : Int} {μ : Mem} {l n : Nat} {ps : List Int} {rs : List (List Int)} {o2 o3 o4 o5 o6 o7 o8 o9 o10 o11 o12 o13 o14 o15 o16 o17 : Option D}
theorem b7_run {x : Int} {r : List Int} {rr : List (List Int)} (ok : RowsOk n ((x :: r) :: rr)) : sb7 (slB ns kk o2 o3 o4 o5 (some (.lst (((x :: r) :: rr).map oT))) (some (tbl ((x :: r) :: rr) n)) (some (.lst ((((x + 1) % 257 :: r) :: rr).map oT))) o9 o10 o11 o12 o13 o14 o15 o16 o17) μ = .nx (slB ns kk o2 o3 o4 o5 (some (.lst (((x :: r) :: rr).map oT))) (some (tbl ((x :: r) :: rr) n)) (some (.lst ((((x + 1) % 257 :: r) :: rr).map oT))) o9 o10 o11 o12 o13 o14 o15 o16 o17) μ := by
  obtain ⟨o1, o2', o3'⟩ := id ok
  obtain ⟨rl, rc⟩ := o3' _ (.head _)
  have cx := rc x (.head _)
  have ok2 : RowsOk n (((x + 1) % 257 :: r) :: rr) := ⟨by simpa using o1, o2', fun q hq => by
    rcases List.mem_cons.mp hq with rfl | h
    · refine ⟨by simpa using rl, fun z hz => ?_⟩
      rcases List.mem_cons.mp hz with rfl | h
      · exact ⟨Int.emod_nonneg _ (by decide), Int.emod_lt_of_pos _ (by decide)⟩
      · exact rc z (.tail _ h)
    · exact o3' q (.tail _ h)⟩
  have mk := fun μ => make_rows (μ := μ) tok (.l (paired_map oT (fun r => .t) (((x + 1) % 257 :: r) :: rr))) ok2
  rw [← e_init] at mk
  have eq := fun μ => eqO_tab (μ := μ) (rs := (x :: r) :: rr) (qs := ((x + 1) % 257 :: r) :: rr) (n := n) (m := n) false
  have ne : (((x :: r) :: rr == ((x + 1) % 257 :: r) :: rr) != false) = false := by
    have : ((x :: r) :: rr == ((x + 1) % 257 :: r) :: rr) = false := by
      rw [beq_eq_false_iff_ne]
      intro h
      injection h with h1 h2
      injection h1 with h3 h4
      omega
    rw [this]; rfl
  rw [ne] at eq
  have pl : Pl (.lst (((x :: r) :: rr).map oT)) := .lst (locBs_all fun y hy => by
    obtain ⟨z, _, rfl⟩ := List.mem_map.mp hy
    exact pl_oT z)
  have eq2 := fun μ => eqO_no (μ := μ) (rs := (x :: r) :: rr) (n := n) pl rfl ⟨"list", rfl⟩ (fun _ => rfl)
  have v1 := vtab ((x :: r) :: rr) n
  have v2 := vl (((x :: r) :: rr).map oT)
  have v3 := vl ((((x + 1) % 257 :: r) :: rr).map oT)
  have is1 : ∀ μ : Mem, gIsNot (.bl false) (.bl false) μ = some (.bl false) := fun _ => rfl
  unfold sb7 slB
  generalize D.lst ((((x + 1) % 257 :: r) :: rr).map oT) = t2 at *
  generalize tbl (((x + 1) % 257 :: r) :: rr) n = t4 at *
  generalize D.lst (((x :: r) :: rr).map oT) = t1 at *
  generalize tbl ((x :: r) :: rr) n = t3 at *
  simp [eVar_run, v1, v2, v3, mk, eq, eq2, is1]
theorem draw_tup (hb : Bxn 2 μ l) (hn : n ≤ 100) : ∃ (cs : List Int) (μ' : Mem), (eAs gTuple (aCons (eLc (iRange1 (aCons (eVar 4) aNil)) (gNm 19) tYesM (eCallM f__law_take (aCons (eVar 2) (aCons (eC (.int 257)) aNil))) [19]) aNil)) (slB ns kk (some (.loc l)) o3 (some (.int (n : Int))) o5 o6 o7 o8 o9 o10 o11 o12 o13 o14 o15 o16 o17) μ = .ok (oT cs) μ' ∧ cs.length = n ∧ Cells cs ∧ Bxn 2 μ' l ∧ Stay l μ μ' := by
  obtain ⟨ys, μ2, el, ⟨b2, s2⟩, n2, p2⟩ := lcL_eff (e := fun (j : Nat) => D.int (j : Int)) (me := (eCallM f__law_take (aCons (eVar 2) (aCons (eC (.int 257)) aNil)))) (δ := slB ns kk (some (.loc l)) o3 (some (.int (n : Int))) o5 o6 o7 o8 o9 o10 o11 o12 o13 o14 o15 o16 o17) (i := 19) (I := fun μ2 => Bxn 2 μ2 l ∧ Stay l μ μ2) (P := fun y => ∃ c, y = .int c ∧ (0 ≤ c ∧ c < 257)) (List.range n) μ (fun j _ μ2 ⟨b, st⟩ => by
    obtain ⟨c, μ3, t3, c0, c1, b3, s3⟩ := take_ok (m := 257) b (by omega) (by omega)
    exact ⟨.int c, μ3, by simp [eVar_run, t3], ⟨b3, st.trans s3⟩, c, rfl, c0, c1⟩) ⟨hb, .refl _ _⟩
  obtain ⟨cs, rfl, hc⟩ := ints_of ys p2
  have it : (iRange1 (aCons (eVar 4) aNil)) (slB ns kk (some (.loc l)) o3 (some (.int (n : Int))) o5 o6 o7 o8 o9 o10 o11 o12 o13 o14 o15 o16 o17) μ = .ok ((List.range n).map fun (j : Nat) => D.int (j : Int)) μ := range1_run rfl (by omega)
  have hw : wipeD (slB ns kk (some (.loc l)) o3 (some (.int (n : Int))) o5 o6 o7 o8 o9 o10 o11 o12 o13 o14 o15 o16 o17) [19] = slB ns kk (some (.loc l)) o3 (some (.int (n : Int))) o5 o6 o7 o8 o9 o10 o11 o12 o13 o14 o15 o16 o17 := rfl
  have hl : cs.length = n := by simpa using n2
  have gt : gTuple [oL cs] μ2 = some (oT cs) := rfl
  refine ⟨cs, μ2, ?_, hl, hc, b2, s2⟩
  rw [eAs_run, aCons_run, eLc_run, it, bind_ok, hw, el]
  simp only
  rw [if_pos (szN (by simp; omega))]
  generalize oT cs = t1 at *
  simp [gt]
theorem b10_run {cs : List Int} (ok : RowsOk n rs) (hc : Cells cs) (hl : cs.length = n) : sb10 (slB ns kk o2 o3 o4 o5 (some (.lst (rs.map oT))) (some (tbl rs n)) o8 (some (oT cs)) o10 o11 o12 o13 o14 o15 o16 o17) μ = .nx (slB ns kk o2 o3 o4 o5 (some (.lst (rs.map oT))) (some (tbl rs n)) o8 (some (oT cs)) o10 o11 o12 o13 o14 o15 o16 o17) μ := by
  have h1 := fun μ => sums_ok (μ := μ) tok ok (.t (zs := cs)) hc hl
  have h2 := fun μ => sums_ok (μ := μ) tok ok (.l (zs := cs)) hc hl
  rw [← e_sums] at h1 h2
  have h3 := fun μ => lsums_run (μ := μ) ok (.t (zs := cs))
  have pc : Cells (rs.map fun r => prodI r cs) := fun x hx => by
    obtain ⟨r, _, rfl⟩ := List.mem_map.mp hx
    exact ⟨Int.emod_nonneg _ (by decide), Int.emod_lt_of_pos _ (by decide)⟩
  obtain ⟨s, _, s2, s3⟩ := rep_neB (n := 1) (w := 20) (d := oT (rs.map fun r => prodI r cs)) (sbT (fun z hz => by
    obtain ⟨c, hc, rfl⟩ := List.mem_map.mp hz
    have := pc c hc
    exact iS (by omega)) (by have := ok.1; simp; omega)) (by omega) (by omega)
  have gl : ∀ μ : Mem, gList [oT cs] μ = some (oL cs) := fun _ => rfl
  have gn : ∀ μ : Mem, gNe (oT (rs.map fun r => prodI r cs)) (oT (rs.map fun r => prodI r cs)) μ = some (.bl false) := fun μ => by rw [gNe_oT]; simp
  have v1 := vtab rs n
  have v2 := vl (rs.map oT)
  have v3 : ∀ μ, vOf (some (some (oT cs))) μ = .ok (oT cs) μ := fun _ => rfl
  have pm : ∀ a b : D, permL [1, 0] [a, b] = [b, a] := fun _ _ => rfl
  unfold sb10 slB
  generalize oT (rs.map fun r => prodI r cs) = t1 at *
  generalize tbl rs n = t2 at *
  generalize D.lst (rs.map oT) = t3 at *
  generalize oT cs = t4 at *
  generalize oL cs = t5 at *
  simp [eVar_run, v1, v2, v3, h1, h2, h3, s2, s3, gl, gn, pm]
/-- [int(a + t * b) % 257 for a, b in zip(..)] -/
theorem zip_mix {t : Int} {a b : List Int} (ht : 0 ≤ t ∧ t < 257) {δ : Sv} {μ : Mem} (hd : ∃ x0 x1 x2 x3 x4 x5 x6 x7 x8 x9 x10 x12 x13 x14 x15 x16 x17 x18 x19 x20 x21 x22 x23, δ = [x0, x1, x2, x3, x4, x5, x6, x7, x8, x9, x10, some (.int t), x12, x13, x14, x15, x16, x17, x18, x19, x20, x21, x22, x23]) :
    lcL (gSeq 2 (gsCons (gNm 20) (gsCons (gNm 21) gsNil))) tYesM (e2 gMod (eAs gInt (aCons (e2 gAdd (eVar 20) (e2 gMul (eVar 11) (eVar 21))) aNil)) (eC (.int 257))) δ (zipD (a.map D.int) (b.map D.int)) μ = .ok ((mixI t a b).map D.int) μ := by
  obtain ⟨x0, x1, x2, x3, x4, x5, x6, x7, x8, x9, x10, x12, x13, x14, x15, x16, x17, x18, x19, x20, x21, x22, x23, rfl⟩ := hd
  rw [lcL_zip2 (f := fun x y => D.int ((x + t * y) % 257)) a b fun x hx y hy => by
    have g : ∀ μ, gMul (.int t) (.int y) μ = some (.int (t * y)) := fun μ => gMul_l (by omega) (by omega)
    simp [eVar_run, g, gMod_int]]
  unfold mixI
  rw [List.map_zipWith]
theorem vT (zs : List Int) (μ : Mem) : vOf (some (some (oT zs))) μ = .ok (oT zs) μ := rfl
theorem b11_run {t : Int} {a b : List Int} (ht : 0 ≤ t ∧ t < 257) (hl : a.length = n ∧ n ≤ 12) : sb11 (slB ns kk o2 o3 o4 o5 o6 o7 o8 (some (oT a)) (some (oT b)) (some (.int t)) o12 o13 o14 o15 o16 o17) μ = .nx (slB ns kk o2 o3 o4 o5 o6 o7 o8 (some (oT a)) (some (oT b)) (some (.int t)) (some (oT (mixI t a b))) o13 o14 o15 o16 o17) μ := by
  have zc := zip_mix (a := a) (b := b) ht (μ := μ) (δ := slB ns kk o2 o3 o4 o5 o6 o7 o8 (some (oT a)) (some (oT b)) (some (.int t)) o12 o13 o14 o15 o16 o17) ⟨_, _, _, _, _, _, _, _, _, _, _, _, _, _, _, _, _, _, _, _, _, _, _, rfl⟩
  have va := vT a
  have vb := vT b
  have sa : seqV (oT a) = some (a.map D.int) := rfl
  have sb : seqV (oT b) = some (b.map D.int) := rfl
  have iz : iZip2 (aCons (eVar 9) (aCons (eVar 10) aNil)) (slB ns kk o2 o3 o4 o5 o6 o7 o8 (some (oT a)) (some (oT b)) (some (.int t)) o12 o13 o14 o15 o16 o17) μ = .ok (zipD (a.map D.int) (b.map D.int)) μ := by
    unfold slB
    generalize oT a = ta at *
    generalize oT b = tb at *
    simp [eVar_run, va, vb, sa, sb]
  have hw : wipeD (slB ns kk o2 o3 o4 o5 o6 o7 o8 (some (oT a)) (some (oT b)) (some (.int t)) o12 o13 o14 o15 o16 o17) [20, 21] = slB ns kk o2 o3 o4 o5 o6 o7 o8 (some (oT a)) (some (oT b)) (some (.int t)) o12 o13 o14 o15 o16 o17 := rfl
  have gt : gTuple [oL (mixI t a b)] μ = some (oT (mixI t a b)) := rfl
  have lm : (mixI t a b).length ≤ 12 := by simp [mixI]; omega
  unfold sb11
  rw [sAsg_run, eAs_run, aCons_run, eLc_run, iz, bind_ok, hw, zc]
  simp only
  rw [if_pos (szN (by simp; omega))]
  generalize oT (mixI t a b) = t1 at *
  simp [gt]
theorem b12_run {t : Int} {a b : List Int} (ok : RowsOk n rs) (ht : 0 ≤ t ∧ t < 257) (ha : Cells a) (hla : a.length = n) (hb : Cells b) (hlb : b.length = n) : sb12 (slB ns kk o2 o3 o4 o5 o6 (some (tbl rs n)) o8 (some (oT a)) (some (oT b)) (some (.int t)) o12 o13 o14 o15 o16 o17) μ = .nx (slB ns kk o2 o3 o4 o5 o6 (some (tbl rs n)) o8 (some (oT a)) (some (oT b)) (some (.int t)) o12 (some (oT (mixI t (rs.map fun r => prodI r a) (rs.map fun r => prodI r b)))) o14 o15 o16 o17) μ := by
  have h1 := fun μ => sums_ok (μ := μ) tok ok (.t (zs := a)) ha hla
  have h2 := fun μ => sums_ok (μ := μ) tok ok (.t (zs := b)) hb hlb
  rw [← e_sums] at h1 h2
  have zc := zip_mix (a := rs.map fun r => prodI r a) (b := rs.map fun r => prodI r b) ht (μ := μ) (δ := slB ns kk o2 o3 o4 o5 o6 (some (tbl rs n)) o8 (some (oT a)) (some (oT b)) (some (.int t)) o12 o13 o14 o15 o16 o17) ⟨_, _, _, _, _, _, _, _, _, _, _, _, _, _, _, _, _, _, _, _, _, _, _, rfl⟩
  have v1 := vtab rs n
  have va := vT a
  have vb := vT b
  have sa : seqV (oT (rs.map fun r => prodI r a)) = some ((rs.map fun r => prodI r a).map D.int) := rfl
  have sb : seqV (oT (rs.map fun r => prodI r b)) = some ((rs.map fun r => prodI r b).map D.int) := rfl
  have iz : iZip2 (aCons (eCallP f_sums_of_cells (aCons (eVar 7) (aCons (eVar 9) aNil))) (aCons (eCallP f_sums_of_cells (aCons (eVar 7) (aCons (eVar 10) aNil))) aNil)) (slB ns kk o2 o3 o4 o5 o6 (some (tbl rs n)) o8 (some (oT a)) (some (oT b)) (some (.int t)) o12 o13 o14 o15 o16 o17) μ = .ok (zipD ((rs.map fun r => prodI r a).map D.int) ((rs.map fun r => prodI r b).map D.int)) μ := by
    unfold slB
    generalize oT (rs.map fun r => prodI r a) = ta' at *
    generalize oT (rs.map fun r => prodI r b) = tb' at *
    generalize (rs.map fun r => prodI r a).map D.int = pa at *
    generalize (rs.map fun r => prodI r b).map D.int = pb at *
    generalize oT a = ta at *
    generalize oT b = tb at *
    generalize tbl rs n = tt at *
    simp [eVar_run, v1, va, vb, h1, h2, sa, sb]
  have hw : wipeD (slB ns kk o2 o3 o4 o5 o6 (some (tbl rs n)) o8 (some (oT a)) (some (oT b)) (some (.int t)) o12 o13 o14 o15 o16 o17) [20, 21] = slB ns kk o2 o3 o4 o5 o6 (some (tbl rs n)) o8 (some (oT a)) (some (oT b)) (some (.int t)) o12 o13 o14 o15 o16 o17 := rfl
  generalize hM : mixI t (rs.map fun r => prodI r a) (rs.map fun r => prodI r b) = M at *
  have gt : gTuple [oL M] μ = some (oT M) := rfl
  have lm : M.length ≤ 12 := by rw [← hM]; have := ok.1; simp [mixI]; omega
  unfold sb12
  rw [sAsg_run, eAs_run, aCons_run, eLc_run, iz, bind_ok, hw, zc]
  simp only
  rw [if_pos (szN (by simp; omega))]
  generalize oT M = t1 at *
  simp [gt]
theorem b13_run {t : Int} {a b : List Int} (ok : RowsOk n rs) (hla : a.length = n) (hlb : b.length = n) : sb13 (slB ns kk o2 o3 o4 o5 o6 (some (tbl rs n)) o8 o9 o10 o11 (some (oT (mixI t a b))) (some (oT (mixI t (rs.map fun r => prodI r a) (rs.map fun r => prodI r b)))) o14 o15 o16 o17) μ = .nx (slB ns kk o2 o3 o4 o5 o6 (some (tbl rs n)) o8 o9 o10 o11 (some (oT (mixI t a b))) (some (oT (mixI t (rs.map fun r => prodI r a) (rs.map fun r => prodI r b)))) o14 o15 o16 o17) μ := by
  have h1 := fun μ => sums_ok (μ := μ) tok ok (.t (zs := mixI t a b)) (mix_cells t a b) (by simp [mixI]; omega)
  rw [← e_sums, prods_mix t rs a b (by omega)] at h1
  generalize mixI t (rs.map fun r => prodI r a) (rs.map fun r => prodI r b) = M at *
  have gn : ∀ μ : Mem, gNe (oT M) (oT M) μ = some (.bl false) := fun μ => by rw [gNe_oT]; simp
  have v1 := vtab rs n
  have va := vT (mixI t a b)
  have vm := vT M
  unfold sb13 slB
  generalize oT (mixI t a b) = t1 at *
  generalize oT M = t2 at *
  generalize tbl rs n = t3 at *
  simp [eVar_run, v1, va, vm, h1, gn]
end
end K05

set_option Elab.async false
set_option linter.all false
set_option maxRecDepth 100000
/-! the law -/
namespace K05
open PySem PySem.Spec PyProof.Rows L2 Kw
section
variable {ns : List Int} {kk : Int} {μ : Mem} {l n p k : Nat} {ps : List Int} {rs : List (List Int)} {o2 o3 o4 o5 o6 o7 o8 o9 o10 o11 o12 o13 o14 o15 o16 o17 : Option D}
theorem b15_run (hp : μ[p]? = some (.lst [])) (hk : k ≤ 100) (hn : ps.length ≤ 100) : ∃ (p15 p16 : Option D), sb15 (slB ns kk o2 (some (.int (k : Int))) o4 (some (oT ps)) o6 o7 o8 o9 o10 o11 o12 o13 (some (.loc p)) (some (oL (powRow ps 0))) o16 o17) μ = .nx (slB ns kk o2 (some (.int (k : Int))) o4 (some (oT ps)) o6 o7 o8 o9 o10 o11 o12 o13 (some (.loc p)) p15 p16 o17) (μ.set p (.lst ((pows ps k).map oT))) := by
  have hlt : p < μ.length := (List.getElem?_eq_some_iff.mp hp).1
  obtain ⟨δ', μ', hl, ⟨o16', rfl⟩, rfl⟩ := loopS_pre (e := fun (j : Nat) => D.int (j : Int)) (g := gNm 16) (b := m_law_b1) (R := fun pre δ μ' => (∃ o16, δ = slB ns kk o2 (some (.int (k : Int))) o4 (some (oT ps)) o6 o7 o8 o9 o10 o11 o12 o13 (some (.loc p)) (some (oL (powRow ps pre.length))) o16 o17) ∧ μ' = μ.set p (.lst ((List.range pre.length).map fun i => oT (powRow ps i)))) (List.range k) (fun pre j post δ μ' hm ⟨⟨o16, e⟩, e2⟩ => by
    subst e
    have hpl : pre.length < k := by
      have := congrArg List.length hm
      simp at this
      omega
    have hq' : μ'[p]? = some (.lst ((List.range pre.length).map fun i => oT (powRow ps i))) := by rw [e2]; exact List.getElem?_set_self hlt
    have vr : ∀ μ, vOf (some (some (oL (powRow ps pre.length)))) μ = .ok (oL (powRow ps pre.length)) μ := fun _ => rfl
    have gt : ∀ r (μ : Mem), gTuple [oL r] μ = some (oT r) := fun _ _ => rfl
    have ml := mtL_app (ma := (aCons (eAs gTuple (aCons (eVar 15) aNil)) aNil)) (mo := eVar 14) (δ := slB ns kk o2 (some (.int (k : Int))) o4 (some (oT ps)) o6 o7 o8 o9 o10 o11 o12 o13 (some (.loc p)) (some (oL (powRow ps pre.length))) (some (.int (j : Int))) o17) (y := oT (powRow ps pre.length)) (by rfl) hq' (by
      unfold slB
      generalize oT ps = tp at *
      have gt' := fun μ => gt (powRow ps pre.length) μ
      generalize oL (powRow ps pre.length) = t1 at *
      generalize oT (powRow ps pre.length) = t2 at *
      simp [eVar_run, vr, gt']) hq' (by simp; omega)
    have el : (pre ++ [j]).length = pre.length + 1 := by simp
    refine ⟨slB ns kk o2 (some (.int (k : Int))) o4 (some (oT ps)) o6 o7 o8 o9 o10 o11 o12 o13 (some (.loc p)) (some (oL (powRow ps pre.length))) (some (.int (j : Int))) o17, slB ns kk o2 (some (.int (k : Int))) o4 (some (oT ps)) o6 o7 o8 o9 o10 o11 o12 o13 (some (.loc p)) (some (oL (powRow ps (pre ++ [j]).length))) (some (.int (j : Int))) o17, μ', μ'.set p (.lst ((List.range (pre ++ [j]).length).map fun i => oT (powRow ps i))), rfl, .inl ?_, ⟨_, rfl⟩, by rw [e2, List.set_set]⟩
    rw [el]
    unfold m_law_b1
    rw [seq_nx (δ1 := slB ns kk o2 (some (.int (k : Int))) o4 (some (oT ps)) o6 o7 o8 o9 o10 o11 o12 o13 (some (.loc p)) (some (oL (powRow ps pre.length))) (some (.int (j : Int))) o17) (μ1 := μ'.set p (.lst ((List.range (pre.length + 1)).map fun i => oT (powRow ps i)))) (by
      rw [sDrop_run, ml, List.range_succ, List.map_append]
      rfl)]
    generalize μ'.set p (.lst ((List.range (pre.length + 1)).map fun i => oT (powRow ps i))) = M
    have zc := zip_powI (b := ps) (powRow_cells ps pre.length) (δ := slB ns kk o2 (some (.int (k : Int))) o4 (some (oT ps)) o6 o7 o8 o9 o10 o11 o12 o13 (some (.loc p)) (some (oL (powRow ps pre.length))) (some (.int (j : Int))) o17) (μ := M) (i := 22) (j := 23) (by decide) (by simp) (by simp)
    have vp := vT ps
    have sr : seqV (oL (powRow ps pre.length)) = some ((powRow ps pre.length).map D.int) := rfl
    have sp : seqV (oT ps) = some (ps.map D.int) := rfl
    have iz : iZip2 (aCons (eVar 15) (aCons (eVar 5) aNil)) (slB ns kk o2 (some (.int (k : Int))) o4 (some (oT ps)) o6 o7 o8 o9 o10 o11 o12 o13 (some (.loc p)) (some (oL (powRow ps pre.length))) (some (.int (j : Int))) o17) M = .ok (zipD ((powRow ps pre.length).map D.int) (ps.map D.int)) M := by
      unfold slB
      generalize oL (powRow ps pre.length) = tr at *
      generalize oT ps = tp at *
      simp [eVar_run, vr, vp, sr, sp]
    have hw : wipeD (slB ns kk o2 (some (.int (k : Int))) o4 (some (oT ps)) o6 o7 o8 o9 o10 o11 o12 o13 (some (.loc p)) (some (oL (powRow ps pre.length))) (some (.int (j : Int))) o17) [22, 23] = slB ns kk o2 (some (.int (k : Int))) o4 (some (oT ps)) o6 o7 o8 o9 o10 o11 o12 o13 (some (.loc p)) (some (oL (powRow ps pre.length))) (some (.int (j : Int))) o17 := rfl
    rw [sAsg_run, eLc_run, iz, bind_ok, hw, zc]
    simp only
    rw [if_pos (szN (by have := powRow_len ps pre.length; simp; omega))]
    rfl) (δ := slB ns kk o2 (some (.int (k : Int))) o4 (some (oT ps)) o6 o7 o8 o9 o10 o11 o12 o13 (some (.loc p)) (some (oL (powRow ps 0))) o16 o17) (μ := μ) ⟨⟨o16, rfl⟩, by
      refine List.ext_getElem? fun i => ?_
      by_cases e : p = i
      · subst e; rw [hp, List.getElem?_set_self hlt]; rfl
      · rw [List.getElem?_set_ne e]⟩
  rw [List.length_range] at hl
  have it : (iRange1 (aCons (eVar 3) aNil)) (slB ns kk o2 (some (.int (k : Int))) o4 (some (oT ps)) o6 o7 o8 o9 o10 o11 o12 o13 (some (.loc p)) (some (oL (powRow ps 0))) o16 o17) μ = .ok ((List.range k).map fun (j : Nat) => D.int (j : Int)) μ := range1_run rfl (by omega)
  refine ⟨_, _, by
    unfold sb15
    rw [sFor_run, it, bindS_ok, hl, pows, List.map_map]
    rfl⟩
theorem b16_run (hp : μ[p]? = some (.lst ((pows ps k).map oT))) (hc : Cells ps) (hl : 1 ≤ ps.length ∧ ps.length ≤ 12) (hk : 1 ≤ k ∧ k ≤ 8) : sb16 (slB ns kk o2 (some (.int (k : Int))) o4 (some (oT ps)) o6 o7 o8 o9 o10 o11 o12 o13 (some (.loc p)) o15 o16 o17) μ = .nx (slB ns kk o2 (some (.int (k : Int))) o4 (some (oT ps)) o6 o7 o8 o9 o10 o11 o12 o13 (some (.loc p)) o15 o16 o17) μ := by
  have h1 := fun μ => points_ok (μ := μ) tok (.t (zs := ps)) hc hl hk
  have h2 := fun μ => points_ok (μ := μ) tok (.l (zs := ps)) hc hl hk
  rw [← e_points] at h1 h2
  have f1 : ∀ μ, gFld fldTab "rows" (tbl (pows ps k) ps.length) μ = some (.tup ((pows ps k).map oT)) := fun μ => (tab_fld tok μ).1
  have gt : gTuple [.loc p] μ = some (.tup ((pows ps k).map oT)) := by simp [gTuple, lstOf, hp]
  have gn : ∀ μ, gNe (.tup ((pows ps k).map oT)) (.tup ((pows ps k).map oT)) μ = some (.bl false) := fun μ => by
    have := gNe_oR (μ := μ) (pows ps k) (pows ps k)
    simpa using this
  have gl : ∀ μ : Mem, gList [oT ps] μ = some (oL ps) := fun _ => rfl
  have vp := vT ps
  have pm : ∀ a b : D, permL [1, 0] [a, b] = [b, a] := fun _ _ => rfl
  unfold sb16 slB
  generalize tbl (pows ps k) ps.length = t1 at *
  generalize D.tup ((pows ps k).map oT) = t2 at *
  generalize oT ps = t3 at *
  generalize oL ps = t4 at *
  simp [eVar_run, h1, h2, f1, gt, gn, gl, vp, pm]
theorem b17_run (hn : n ≤ 100) : sb17 (slB ns kk o2 o3 (some (.int (n : Int))) o5 o6 o7 o8 o9 o10 o11 o12 o13 o14 o15 o16 o17) μ = .nx (slB ns kk o2 o3 (some (.int (n : Int))) o5 o6 o7 o8 o9 o10 o11 o12 o13 o14 o15 o16 (some (oL (oddP n)))) μ := by
  have lc := lcL_map (e := fun (j : Nat) => D.int (j : Int)) (f := fun (j : Nat) => D.int (2 * (j : Int) + 1)) (me := (e2 gAdd (e2 gMul (eC (.int 2)) (eVar 19)) (eC (.int 1)))) (δ := slB ns kk o2 o3 (some (.int (n : Int))) o5 o6 o7 o8 o9 o10 o11 o12 o13 o14 o15 o16 o17) (μ := μ) (i := 19) (List.range n) fun j hj => by
    have g : ∀ μ, gMul (.int 2) (.int (j : Int)) μ = some (.int (2 * (j : Int))) := fun μ => gMul_l (by omega) (by omega)
    simp [eVar_run, g]
  have it : (iRange1 (aCons (eVar 4) aNil)) (slB ns kk o2 o3 (some (.int (n : Int))) o5 o6 o7 o8 o9 o10 o11 o12 o13 o14 o15 o16 o17) μ = .ok ((List.range n).map fun (j : Nat) => D.int (j : Int)) μ := range1_run rfl (by omega)
  have hw : wipeD (slB ns kk o2 o3 (some (.int (n : Int))) o5 o6 o7 o8 o9 o10 o11 o12 o13 o14 o15 o16 o17) [19] = slB ns kk o2 o3 (some (.int (n : Int))) o5 o6 o7 o8 o9 o10 o11 o12 o13 o14 o15 o16 o17 := rfl
  unfold sb17
  rw [sAsg_run, eLc_run, it, bind_ok, hw, lc]
  simp only
  rw [if_pos (szN (by simp; omega))]
  unfold oddP oL
  rw [List.map_map]
  rfl
theorem b18_run (hn : 1 ≤ n ∧ n ≤ 12) (hk : 1 ≤ k ∧ k ≤ 8) : sb18 (slB ns kk o2 (some (.int (k : Int))) (some (.int (n : Int))) o5 o6 o7 o8 o9 o10 o11 o12 o13 o14 o15 o16 (some (oL (oddP n)))) μ = .nx (slB ns kk o2 (some (.int (k : Int))) (some (.int (n : Int))) o5 o6 o7 o8 o9 o10 o11 o12 o13 o14 o15 o16 (some (oL (oddP n)))) μ := by
  have h1 := fun μ => power_ok (μ := μ) tok hn hk
  have h2 := fun μ => points_ok (μ := μ) tok (.l (zs := oddP n)) (oddP_cells hn.2) (by rw [oddP_len]; exact hn) hk
  rw [← e_power] at h1
  rw [← e_points, oddP_len] at h2
  have f1 : ∀ μ, gFld fldTab "rows" (tbl (pows (oddP n) k) n) μ = some (.tup ((pows (oddP n) k).map oT)) := fun μ => (tab_fld tok μ).1
  have eq := fun μ => eqO_tab (μ := μ) (rs := pows (oddP n) k) (qs := pows (oddP n) k) (n := n) (m := n) true
  have bb : ((pows (oddP n) k == pows (oddP n) k) != true) = false := by simp
  rw [bb] at eq
  have ix : ∀ μ, gIx (.tup ((pows (oddP n) k).map oT)) (.int 0) μ = some (oT (List.replicate n 1)) := fun μ => by
    have := ix_nat (k := 0) (xs := (pows (oddP n) k).map oT) (x := .tup ((pows (oddP n) k).map oT)) (μ := μ) rfl
    refine this.trans ?_
    have e : (pows (oddP n) k)[0]? = some (List.replicate n 1) := by
      unfold pows
      rw [List.getElem?_map, List.getElem?_range (by omega)]
      show some (List.replicate (oddP n).length 1) = _
      rw [oddP_len]
    rw [List.getElem?_map, e]
    rfl
  have rp : ∀ μ, gRepA (.tup [.int 1]) (.int (n : Int)) μ = some (oT (List.replicate n 1)) := fun μ => by
    rw [gRepA_run (by omega) (by omega) (by simp), Int.toNat_natCast]
    congr 2
    simp
  have gn : ∀ μ, gNe (oT (List.replicate n 1)) (oT (List.replicate n 1)) μ = some (.bl false) := fun μ => by rw [gNe_oT]; simp
  have vo : ∀ μ, vOf (some (some (oL (oddP n)))) μ = .ok (oL (oddP n)) μ := fun _ => rfl
  have pm : ∀ a b : D, permL [1, 0] [a, b] = [b, a] := fun _ _ => rfl
  unfold sb18 slB
  generalize tbl (pows (oddP n) k) n = t1 at *
  generalize D.tup ((pows (oddP n) k).map oT) = t2 at *
  generalize oL (oddP n) = t3 at *
  generalize oT (List.replicate n 1) = t4 at *
  simp [eVar_run, h1, h2, f1, eq, ix, rp, gn, vo, pm, gTupD_run]
theorem turn_ok (h0 : 0 ≤ kk) : ∃ (p2 p3 p4 p5 p6 p7 p8 p9 p10 p11 p12 p13 p14 p15 p16 p17 : Option D) (μ' : Mem), m_law_b2 (slB ns kk o2 o3 o4 o5 o6 o7 o8 o9 o10 o11 o12 o13 o14 o15 o16 o17) μ = .nx (slB ns kk p2 p3 p4 p5 p6 p7 p8 p9 p10 p11 p12 p13 p14 p15 p16 p17) μ' := by
  obtain ⟨μ1, hb, b1, _⟩ := box_bx (ns := ns) (k := kk) (μ := μ) h0
  obtain ⟨l, hl⟩ : ∃ l, l = μ.length := ⟨_, rfl⟩
  rw [← hl] at hb b1
  obtain ⟨k0, μ2, t2, k0l, b2, s2⟩ := take_ok.nat (m := 4) b1 (by omega) (by omega)
  obtain ⟨n0, μ3, t3, n0l, b3, s3⟩ := take_ok.nat (m := 5) b2 (by omega) (by omega)
  have t2' : callM f__law_take [.loc l, .int 4] μ1 = .ok (.int (k0 : Int)) μ2 := t2
  have t3' : callM f__law_take [.loc l, .int 5] μ2 = .ok (.int (n0 : Int)) μ3 := t3
  obtain ⟨k, hk⟩ : ∃ k, k = 1 + k0 := ⟨_, rfl⟩
  obtain ⟨n, hn⟩ : ∃ n, n = 1 + n0 := ⟨_, rfl⟩
  have ek : (1 : Int) + (k0 : Int) = (k : Int) := by omega
  have en : (1 : Int) + (n0 : Int) = (n : Int) := by omega
  obtain ⟨ps, rs, μ4, r4, lp, cp, lr, ok, b4, _⟩ := rows_draw b3 (k := k) (n := n) (by omega) (by omega)
  match rs, ok, lr, r4 with
  | [], ok, _, _ => exact absurd ok.1.1 (by decide)
  | [] :: rr, ok, _, _ => exact absurd (ok.2.2 [] (.head _)).1 (by have := ok.2.1; simp; omega)
  | (x :: r) :: rr, ok, lr, r4 =>
  obtain ⟨one, μ5, d5, l5, c5, b5, s5⟩ := draw_tup (ns := ns) (kk := kk) (n := n) (o3 := some (.int (k : Int))) (o5 := some (oT ps)) (o6 := some (.lst (((x :: r) :: rr).map oT))) (o7 := some (tbl ((x :: r) :: rr) n)) (o8 := some (.lst ((((x + 1) % 257 :: r) :: rr).map oT))) (o9 := o9) (o10 := o10) (o11 := o11) (o12 := o12) (o13 := o13) (o14 := o14) (o15 := o15) (o16 := o16) (o17 := o17) b4 (by omega)
  obtain ⟨more, μ6, d6, l6, c6, b6, s6⟩ := draw_tup (ns := ns) (kk := kk) (n := n) (o3 := some (.int (k : Int))) (o5 := some (oT ps)) (o6 := some (.lst (((x :: r) :: rr).map oT))) (o7 := some (tbl ((x :: r) :: rr) n)) (o8 := some (.lst ((((x + 1) % 257 :: r) :: rr).map oT))) (o9 := o9) (o10 := o10) (o11 := o11) (o12 := o12) (o13 := o13) (o14 := o14) (o15 := o15) (o16 := o16) (o17 := o17) b5 (by omega)
  obtain ⟨t, μ7, t7, t70, t71, b7, s7⟩ := take_ok (m := 257) b6 (by omega) (by omega)
  obtain ⟨p, hp⟩ : ∃ p, p = μ7.length := ⟨_, rfl⟩
  have n1 : gNewL [] μ7 = some (.loc p, μ7 ++ [.lst []]) := by rw [hp]; rfl
  obtain ⟨M, hM⟩ : ∃ M, M = μ7 ++ [Ob.lst []] := ⟨_, rfl⟩
  rw [← hM] at n1
  have bM : Bxn 2 M l := by rw [hM]; exact b7.app
  have Mp : M[p]? = some (.lst []) := by rw [hM, hp]; simp
  have plt : p < M.length := (List.getElem?_eq_some_iff.mp Mp).1
  have lp' : p ≠ l := by have := b7.lt; omega
  obtain ⟨p15, p16, r15⟩ := b15_run (ns := ns) (kk := kk) (o2 := some (.loc l)) (o4 := some (.int (n : Int))) (o6 := some (.lst (((x :: r) :: rr).map oT))) (o7 := some (tbl ((x :: r) :: rr) n)) (o8 := some (.lst ((((x + 1) % 257 :: r) :: rr).map oT))) (o9 := some (oT one)) (o10 := some (oT more)) (o11 := some (.int t)) (o12 := some (oT (mixI t one more))) (o13 := some (oT (mixI t (((x :: r) :: rr).map fun r => prodI r one) (((x :: r) :: rr).map fun r => prodI r more)))) (o16 := o16) (o17 := o17) (k := k) (ps := ps) Mp (by omega) (by omega)
  obtain ⟨N, hN⟩ : ∃ N, N = M.set p (.lst ((pows ps k).map oT)) := ⟨_, rfl⟩
  rw [← hN] at r15
  have Np : N[p]? = some (.lst ((pows ps k).map oT)) := by rw [hN]; exact List.getElem?_set_self plt
  have bN : Bxn 2 N l := by rw [hN]; exact bM.set lp'
  obtain ⟨μ8, nr, b8, s8⟩ := none_run ok (by omega) bN
  have nr' := callM_ok nr s8.1
  refine ⟨some (.loc l), some (.int (k : Int)), some (.int (n : Int)), some (oT ps), some (.lst (((x :: r) :: rr).map oT)), some (tbl ((x :: r) :: rr) n), some (.lst ((((x + 1) % 257 :: r) :: rr).map oT)), some (oT one), some (oT more), some (.int t), some (oT (mixI t one more)), some (oT (mixI t (((x :: r) :: rr).map fun r => prodI r one) (((x :: r) :: rr).map fun r => prodI r more))), some (.loc p), p15, p16, some (oL (oddP n)), μ8, ?_⟩
  rw [sb_f]
  rw [seq_nx (δ1 := slB ns kk (some (.loc l)) o3 o4 o5 o6 o7 o8 o9 o10 o11 o12 o13 o14 o15 o16 o17) (μ1 := μ1) (by unfold sb1 slB; simp [eVar_run, hb])]
  rw [seq_nx (δ1 := slB ns kk (some (.loc l)) (some (.int (k : Int))) (some (.int (n : Int))) o5 o6 o7 o8 o9 o10 o11 o12 o13 o14 o15 o16 o17) (μ1 := μ3) (by unfold sb2 slB; simp [eVar_run, t2', t3', ek, en])]
  rw [seq_nx (δ1 := slB ns kk (some (.loc l)) (some (.int (k : Int))) (some (.int (n : Int))) (some (oT ps)) (some (.lst (((x :: r) :: rr).map oT))) o7 o8 o9 o10 o11 o12 o13 o14 o15 o16 o17) (μ1 := μ4) (by
    unfold sb3 slB
    generalize D.lst (((x :: r) :: rr).map oT) = t1 at *
    generalize oT ps = t2 at *
    simp [eVar_run, r4])]
  rw [seq_nx (b4_run ok), seq_nx (b5_run ok (by rw [lr]) rfl), seq_nx (b6_run ok), seq_nx (b7_run ok)]
  rw [seq_nx (δ1 := slB ns kk (some (.loc l)) (some (.int (k : Int))) (some (.int (n : Int))) (some (oT ps)) (some (.lst (((x :: r) :: rr).map oT))) (some (tbl ((x :: r) :: rr) n)) (some (.lst ((((x + 1) % 257 :: r) :: rr).map oT))) (some (oT one)) (some (oT more)) o11 o12 o13 o14 o15 o16 o17) (μ1 := μ6) (by
    unfold sb8
    generalize (eAs gTuple (aCons (eLc (iRange1 (aCons (eVar 4) aNil)) (gNm 19) tYesM (eCallM f__law_take (aCons (eVar 2) (aCons (eC (.int 257)) aNil))) [19]) aNil)) = ee at *
    unfold slB at d5 d6 ⊢
    generalize D.lst (((x :: r) :: rr).map oT) = t1 at *
    generalize tbl ((x :: r) :: rr) n = t2 at *
    generalize D.lst ((((x + 1) % 257 :: r) :: rr).map oT) = t3 at *
    generalize oT ps = t4 at *
    generalize oT one = t5 at *
    generalize oT more = t6 at *
    simp [d5, d6])]
  rw [seq_nx (δ1 := slB ns kk (some (.loc l)) (some (.int (k : Int))) (some (.int (n : Int))) (some (oT ps)) (some (.lst (((x :: r) :: rr).map oT))) (some (tbl ((x :: r) :: rr) n)) (some (.lst ((((x + 1) % 257 :: r) :: rr).map oT))) (some (oT one)) (some (oT more)) (some (.int t)) o12 o13 o14 o15 o16 o17) (μ1 := μ7) (by
    unfold sb9 slB
    generalize D.lst (((x :: r) :: rr).map oT) = t1 at *
    generalize tbl ((x :: r) :: rr) n = t2 at *
    generalize D.lst ((((x + 1) % 257 :: r) :: rr).map oT) = t3 at *
    generalize oT ps = t4 at *
    generalize oT one = t5 at *
    generalize oT more = t6 at *
    simp [eVar_run, t7])]
  rw [seq_nx (b10_run ok c5 l5), seq_nx (b11_run ⟨t70, t71⟩ ⟨l5, by omega⟩), seq_nx (b12_run ok ⟨t70, t71⟩ c5 l5 c6 l6), seq_nx (b13_run ok l5 l6)]
  rw [seq_nx (δ1 := slB ns kk (some (.loc l)) (some (.int (k : Int))) (some (.int (n : Int))) (some (oT ps)) (some (.lst (((x :: r) :: rr).map oT))) (some (tbl ((x :: r) :: rr) n)) (some (.lst ((((x + 1) % 257 :: r) :: rr).map oT))) (some (oT one)) (some (oT more)) (some (.int t)) (some (oT (mixI t one more))) (some (oT (mixI t (((x :: r) :: rr).map fun r => prodI r one) (((x :: r) :: rr).map fun r => prodI r more)))) (some (.loc p)) (some (oL (powRow ps 0))) o16 o17) (μ1 := M) (by
    have g := fun μ => gRepA_lst (x := .int 1) (n := n) (by omega) μ
    have e : oL (powRow ps 0) = .lst (List.replicate n (.int 1)) := by
      unfold oL powRow
      rw [List.map_replicate, lp]
    rw [e]
    unfold sb14 slB
    generalize D.lst (List.replicate n (.int 1)) = tt at *
    generalize D.lst (((x :: r) :: rr).map oT) = t1 at *
    generalize tbl ((x :: r) :: rr) n = t2 at *
    generalize D.lst ((((x + 1) % 257 :: r) :: rr).map oT) = t3 at *
    generalize oT ps = t4 at *
    generalize oT one = t5 at *
    generalize oT more = t6 at *
    generalize oT (mixI t one more) = t7 at *
    generalize oT (mixI t (((x :: r) :: rr).map fun r => prodI r one) (((x :: r) :: rr).map fun r => prodI r more)) = t8 at *
    simp [eVar_run, n1, gLstD_run, g])]
  rw [seq_nx r15, seq_nx (b16_run Np cp (by omega) (by omega)), seq_nx (b17_run (by omega)), seq_nx (b18_run (by omega) (by omega))]
  unfold sb19 slB
  have v1 := vtab ((x :: r) :: rr) n
  generalize D.lst (((x :: r) :: rr).map oT) = t1 at *
  generalize tbl ((x :: r) :: rr) n = t2 at *
  generalize D.lst ((((x + 1) % 257 :: r) :: rr).map oT) = t3 at *
  generalize oT ps = t4 at *
  generalize oT one = t5 at *
  generalize oT more = t6 at *
  generalize oT (mixI t one more) = t7 at *
  generalize oT (mixI t (((x :: r) :: rr).map fun r => prodI r one) (((x :: r) :: rr).map fun r => prodI r more)) = t8 at *
  generalize oL (oddP n) = t9 at *
  simp [eVar_run, v1, nr']
end
theorem pure (ns : List Int) (hl : ns.length ≤ 63) (hb : ∀ z ∈ ns, Builtin.Int.intBits z ≤ 1048576) : ∃ μ, f_law [.scr (ns.map D.int)] [] = .ok (.bl true) μ := by
  obtain ⟨δ', μ', e, o1, o2, o3, o4, o5, o6, o7, o8, o9, o10, o11, o12, o13, o14, o15, o16, o17, rfl⟩ := loopS_inv (g := gNm 1) (b := m_law_b2) (I := fun δ _ => ∃ o1 o2 o3 o4 o5 o6 o7 o8 o9 o10 o11 o12 o13 o14 o15 o16 o17, δ = [some (.scr (ns.map D.int)), o1, o2, o3, o4, o5, o6, o7, o8, o9, o10, o11, o12, o13, o14, o15, o16, o17, none, none, none, none, none, none]) (items := (List.range 4).map fun (k : Nat) => .int (k : Int)) (δ := [some (.scr (ns.map D.int)), none, none, none, none, none, none, none, none, none, none, none, none, none, none, none, none, none, none, none, none, none, none, none]) (μ := []) (fun d hd δ μ ⟨o1, o2, o3, o4, o5, o6, o7, o8, o9, o10, o11, o12, o13, o14, o15, o16, o17, e⟩ => by
    subst e
    obtain ⟨j, hj, rfl⟩ := List.mem_map.mp hd
    obtain ⟨q2, q3, q4, q5, q6, q7, q8, q9, q10, q11, q12, q13, q14, q15, q16, q17, μ2, e2⟩ := turn_ok (ns := ns) (kk := (j : Int)) (μ := μ) (o2 := o2) (o3 := o3) (o4 := o4) (o5 := o5) (o6 := o6) (o7 := o7) (o8 := o8) (o9 := o9) (o10 := o10) (o11 := o11) (o12 := o12) (o13 := o13) (o14 := o14) (o15 := o15) (o16 := o16) (o17 := o17) (by omega)
    exact ⟨slB ns (j : Int) o2 o3 o4 o5 o6 o7 o8 o9 o10 o11 o12 o13 o14 o15 o16 o17, _, μ2, rfl, .inl e2, _, _, _, _, _, _, _, _, _, _, _, _, _, _, _, _, _, rfl⟩) ⟨_, _, _, _, _, _, _, _, _, _, _, _, _, _, _, _, _, rfl⟩
  have r4 := range1_run (mr := aCons (eC (.int 4)) aNil) (δ := [some (.scr (ns.map D.int)), none, none, none, none, none, none, none, none, none, none, none, none, none, none, none, none, none, none, none, none, none, none, none]) (μ := []) (μ1 := []) (n := 4) rfl (by decide)
  have h1 := fun μ => power_ok (μ := μ) tok (n := 12) (k := 8) (by decide) (by decide)
  rw [← e_power] at h1
  have h1' : ∀ μ, callP f_power_table [.int 12, .int 8] μ = .ok (tbl (pows (oddP 12) 8) 12) μ := h1
  have f2 : ∀ μ, gFld fldTab "data" (tbl (pows (oddP 12) 8) 12) μ = some (.int 12) := fun μ => (tab_fld tok μ).2.1
  have f3 : ∀ μ, gFld fldTab "sums" (tbl (pows (oddP 12) 8) 12) μ = some (.int 8) := fun μ => by
    have := (tab_fld (xs := (pows (oddP 12) 8).map oT) (n := 12) tok μ).2.2
    have e : ((pows (oddP 12) 8).map oT).length = 8 := by simp [pows]
    rw [e] at this
    exact this
  refine ⟨μ', body_ret (δ := [some (.scr (ns.map D.int)), none, none, none, none, none, none, none, none, none, none, none, none, none, none, none, none, none, none, none, none, none, none, none]) rfl ?_⟩
  unfold m_law
  rw [seq_nx (by rw [sFor_run, r4]; exact e)]
  generalize tbl (pows (oddP 12) 8) 12 = t1 at *
  simp [h1', f2, f3]
end K05

set_option Elab.async false
set_option linter.all false
set_option maxRecDepth 100000
set_option maxHeartbeats 0
open PySem PySem.W PySem.Calls PyProof.Rows
theorem PySem.Challenge.cw_keptwhole_k05_tables_and_sums_holds : PySem.Challenge.rw_keptwhole_k05_tables_and_sums.Holds := by
  w_on; o_law
  refine HandSHeadRun.head_any (r := OpenLaw.row PySem.Challenge.rw_keptwhole_k05_tables_and_sums) (q := view (OpenLaw.row PySem.Challenge.rw_keptwhole_k05_tables_and_sums).prog [30]) (H := K05.hk) (ob := K05.ob) (M := 8000) (loose := K05.loose) (d := HandSHeadRun.topDef (OpenLaw.row PySem.Challenge.rw_keptwhole_k05_tables_and_sums).prog 30) (kwd := []) K05.ob_eq
    (by kernel_rfl) (fun s => by kernel_rfl) K05.run (by kernel_rfl) (by kernel_rfl) (by kernel_rfl) (by rfl) (by first | assumption | decide +kernel) (by decide +kernel) ⟨rfl, rfl, rfl, rfl, rfl, by decide +kernel⟩ ?hw ?hc
  case hw => w_witness2
  case hc =>
    refine Kw.walk_G (l := PySem.Challenge.rw_keptwhole_k05_tables_and_sums) (n := 63) (k := 13) (x := "_law_script") (m := K05.f_law) rfl (by decide) (by kernel_rfl) ⟨rfl, by decide, by decide⟩ K05.pure ?F
    intro w mg fa h Y G hmg0
    obtain ⟨K, KX, c⟩ := Y
    have hmg : mg ("law" : PySem.Str) = some (.ref fa) := by
      have e : (HandSHeadRun.topDef (OpenLaw.row PySem.Challenge.rw_keptwhole_k05_tables_and_sums).prog 30).name = ("law" : PySem.Str) := by kernel_rfl
      rw [← e]
      exact hmg0
    obtain ⟨fd, hb, hF⟩ := K05.facts (P := (PySem.Challenge.rw_keptwhole_k05_tables_and_sums).prog) (w := w) (T := []) KX G hmg c (by kernel_rfl) (by kernel_rfl)
    exact ⟨K, fd, [He.cT K ("_law_none_right", none)], [((He.cT K ("_law_none_right", none)).2, ("_law_none_right.<locals>.<lambda>" : Str))], KX,
      (fun p hp => by
        simp only [List.mem_cons, List.not_mem_nil, or_false] at hp
        rw [hp]; exact c.empty _ (.head _)),
      (fun p hp => by
        simp only [List.mem_cons, List.not_mem_nil, or_false] at hp
        rw [hp]; exact c.out _ (.head _)),
      (fun p hp => by
        simp only [List.mem_cons, List.not_mem_nil, or_false] at hp
        rw [hp]; exact PySem.W.codeHd_of_K KX (c.hd _ (.head _))),
      (fun p hp => by
        simp only [List.mem_cons, List.not_mem_nil, or_false] at hp
        rw [hp]; exact ⟨_, (.head _)⟩), hb, fun base kb nb tb => hF base kb nb (tb _ (.head _))⟩

