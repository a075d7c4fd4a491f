import PyProof.Rows.All
import Wide.All
import OpenK.AllK
import Wide.FinOn
import PyProof.EqAt
import PyProof.EqKinds
import PyProof.TupleCall
import HandS.ForMost
import HandS.Lambda
import HandS.Wide
import HandS.WideMore
import HandS.WideBits
import HandS.Conv
import HandS.Zip
import HandS.IsInst
import HandS.TupAny
import HandS.TryMany
import HandS.ExcField
import HandS.Defaults
import HandS.HeadWalk
import HandS.HeadHook4
import HandS.Head2
import HandS.Flow
import HandS.Deep
import HandS.Rev
import HandS.Style
import HandS.Small
import HandS.ExcOwn
import HandS.TupLe
import HandS.TupMul
import HandS.NoneIn
import HandS.WordsDict
import HandS.DictComp
import HandS.SetFor
import KE.GoesEnum
import KE.DataAny
import PyProof.StrBlock2
import PySem.Challenge.RW_keptwhole_k04_papers_of_systems_bent
import PyProof.ListIndex
set_option Elab.async false
set_option linter.all false
set_option maxRecDepth 100000
/-! Kw: Python code as plain functions over data: D (data), Mem (what changes), Out (how a piece of code ends); a piece of code does what its function says: the reading tE, over HandS. -/
namespace Kw
open PySem PySem.Spec PyProof.Rows L2

/-- data: what never changes (lst, dct: a list, a dict that nothing changes any more), or the place of a thing that changes -/
inductive D where
  | non | bl (b : Bool) | int (i : Int) | str (x : Str)
  | tup (xs : List D) | lst (xs : List D)
  | dct (kvs : List (D × D))
  /-- a list, a dict that is read alone: the script, a module's list, what a caller lent -/
  | scr (xs : List D) | brd (kvs : List (D × D))
  | loc (l : Nat)
  /-- an own class, a def: by its global name; a built-in class by its name -/
  | glb (x : Str) | ty (n : String)
  /-- the def's argument that is a lambda; the exception that a suite holds -/
  | lam | exc (c : Str) (fs : List (Str × D))

/-- a thing that changes -/
inductive Ob where
  | lst (xs : List D)
  | dct (kvs : List (D × D))
  | ins (c : Str) (fs : List (Str × D))
  /-- it never changes again: laid for good -/
  | gone

/-- an exception: its class, its fields -/
structure Xn where
  cls : Str
  fs : List (Str × D)

abbrev Mem := List Ob
abbrev Sv := List (Option D)

inductive Out (α : Type) where
  | ok (a : α) (μ : Mem)
  | exc (x : Xn) (μ : Mem)
  | stuck

/-- the world: where the places lie, what is laid for good, what callers lent (it stays), what is being made (it stays) -/
structure Wd where
  n : Nat
  ρ : Nat → Addr
  φ : Hp
  fr : Hp
  gr : Hp
structure Wd.Le (w w' : Wd) : Prop where
  n : w.n ≤ w'.n
  ρ : ∀ l, l < w.n → w'.ρ l = w.ρ l
  φ : ∀ a o, w.φ a = some o → w'.φ a = some o
  fr : w'.fr = w.fr
  gr : w'.gr = w.gr
/-- .. what is being made apart -/
structure Wd.Lw (w w' : Wd) : Prop where
  n : w.n ≤ w'.n
  ρ : ∀ l, l < w.n → w'.ρ l = w.ρ l
  φ : ∀ a o, w.φ a = some o → w'.φ a = some o
  fr : w'.fr = w.fr
theorem Wd.Le.lw {w w' : Wd} (l : w.Le w') : w.Lw w' := ⟨l.n, l.ρ, l.φ, l.fr⟩
theorem Wd.Lw.trans {a b c : Wd} (x : a.Lw b) (y : b.Lw c) : a.Lw c :=
  ⟨Nat.le_trans x.n y.n, fun l h => (y.ρ l (Nat.lt_of_lt_of_le h x.n)).trans (x.ρ l h), fun p o h => y.φ p o (x.φ p o h), y.fr.trans x.fr⟩
theorem Wd.Le.refl (w : Wd) : w.Le w := ⟨Nat.le_refl _, fun _ _ => rfl, fun _ _ h => h, rfl, rfl⟩
theorem Wd.Le.trans {a b c : Wd} (x : a.Le b) (y : b.Le c) : a.Le c :=
  ⟨Nat.le_trans x.n y.n, fun l h => (y.ρ l (Nat.lt_of_lt_of_le h x.n)).trans (x.ρ l h), fun p o h => y.φ p o (x.φ p o h), y.fr.trans x.fr, y.gr.trans x.gr⟩

section
variable (K : PySem.W.Frag) (mg : Str → Option Value) (w : Wd)
mutual
inductive RelD : D → V → Prop
  | non : RelD .non .non
  | bl (b : Bool) : RelD (.bl b) (.bl b)
  | int (i : Int) : RelD (.int i) (.int i)
  | str (x : Str) : RelD (.str x) (.str x)
  | tup {a : Addr} {vs : List V} {ds : List D} : SqT K w.φ a vs → RelDs ds vs → RelD (.tup ds) (.ref a)
  | lst {a : Addr} {vs : List V} {ds : List D} : w.φ a = some (.lst vs) → RelDs ds vs → RelD (.lst ds) (.ref a)
  | scr {a : Addr} {vs : List V} {ds : List D} : (SqL K w.φ a vs ∨ w.fr a = some (.lst vs)) → RelDs ds vs → RelD (.scr ds) (.ref a)
  | brd {a : Addr} {kvs : List (Key × V)} {ks ds : List D} : Rd w.fr a (.dK kvs) → ks = kvs.map (fun p => match p.1 with | .inl i => D.int i | .inr x => D.str x) → RelDs ds (kvs.map (·.2)) → RelD (.brd (ks.zip ds)) (.ref a)
  | dctK {a : Addr} {kvs : List (Key × V)} {ks ds : List D} : Rd w.φ a (.dK kvs) → ks = kvs.map (fun p => match p.1 with | .inl i => D.int i | .inr x => D.str x) → RelDs ds (kvs.map (·.2)) → RelD (.dct (ks.zip ds)) (.ref a)
  | loc {l : Nat} : l < w.n → RelD (.loc l) (.ref (w.ρ l))
  | glb {x : Str} {a : Addr} : mg x = some (.ref a) → RelD (.glb x) (.ref a)
  | ty (n : String) : RelD (.ty n) (.ty n)
inductive RelDs : List D → List V → Prop
  | nil : RelDs [] []
  | cons {d : D} {ds : List D} {v : V} {vs : List V} : RelD d v → RelDs ds vs → RelDs (d :: ds) (v :: vs)
end
end

section
variable {K : PySem.W.Frag} {mg : Str → Option Value} {w w' : Wd}
theorem rd_mono {H H' : Hp} (e : ∀ a o, H a = some o → H' a = some o) {a : Addr} {o : HO} (h : Rd H a o) : Rd H' a o := h.elim (fun h => .inl (e _ _ h)) fun ⟨o', h⟩ => .inr ⟨o', e _ _ h⟩
theorem sqL_mono {H H' : Hp} (e : ∀ a o, H a = some o → H' a = some o) {a : Addr} {xs : List V} (h : SqL K H a xs) : SqL K H' a xs := h.elim (fun h => .inl (rd_mono e h)) .inr
theorem sqT_mono {H H' : Hp} (e : ∀ a o, H a = some o → H' a = some o) {a : Addr} {xs : List V} (h : SqT K H a xs) : SqT K H' a xs := h.elim (fun h => .inl (rd_mono e h)) .inr
theorem RelDs.length {ds : List D} {vs : List V} (h : RelDs K mg w ds vs) : ds.length = vs.length := by
  induction ds generalizing vs with
  | nil => cases h; rfl
  | cons d ds ih => cases h with | cons h1 h2 => simp [ih h2]
mutual
theorem RelD.monoW (le : w.Lw w') : ∀ {d : D} {v : V}, RelD K mg w d v → RelD K mg w' d v
  | _, _, .non => .non
  | _, _, .bl b => .bl b
  | _, _, .int i => .int i
  | _, _, .str x => .str x
  | _, _, .tup h r => .tup (sqT_mono le.φ h) (RelDs.monoW le r)
  | _, _, .lst h r => .lst (le.φ _ _ h) (RelDs.monoW le r)
  | _, _, .scr h r => .scr (h.elim (fun h => .inl (sqL_mono le.φ h)) fun h => .inr (by rw [le.fr]; exact h)) (RelDs.monoW le r)
  | _, _, .brd h e r => .brd (by rw [le.fr]; exact h) e (RelDs.monoW le r)
  | _, _, .dctK h e r => .dctK (rd_mono le.φ h) e (RelDs.monoW le r)
  | _, _, .loc (l := l) h => le.ρ l h ▸ .loc (Nat.lt_of_lt_of_le h le.n)
  | _, _, .glb h => .glb h
  | _, _, .ty n => .ty n
theorem RelDs.monoW (le : w.Lw w') : ∀ {ds : List D} {vs : List V}, RelDs K mg w ds vs → RelDs K mg w' ds vs
  | _, _, .nil => .nil
  | _, _, .cons h t => .cons (RelD.monoW le h) (RelDs.monoW le t)
end
theorem RelD.mono (le : w.Le w') {d : D} {v : V} (h : RelD K mg w d v) : RelD K mg w' d v := RelD.monoW le.lw h
theorem RelDs.mono (le : w.Le w') {ds : List D} {vs : List V} (h : RelDs K mg w ds vs) : RelDs K mg w' ds vs := RelDs.monoW le.lw h
end
end Kw

set_option Elab.async false
set_option linter.all false
set_option maxRecDepth 100000
namespace Kw
open PySem PySem.Spec PyProof.Rows L2

/-! ### things that change, the memory, exceptions, slots -/
def keyD : Key → D
  | .inl i => .int i
  | .inr x => .str x
def RelFs (K : PySem.W.Frag) (mg : Str → Option Value) (w : Wd) (fs : List (Str × D)) (gs : List (Str × V)) : Prop := fs.map (·.1) = gs.map (·.1) ∧ RelDs K mg w (fs.map (·.2)) (gs.map (·.2))
inductive RelOb (K : PySem.W.Frag) (mg : Str → Option Value) (w : Wd) : Ob → Option HO → Prop
  | lst {xs : List D} {vs : List V} : RelDs K mg w xs vs → RelOb K mg w (.lst xs) (some (.lst vs))
  | dct {kvs : List (D × D)} {gs : List (Key × V)} : kvs.map (·.1) = gs.map (fun p => keyD p.1) → RelDs K mg w (kvs.map (·.2)) (gs.map (·.2)) → RelOb K mg w (.dct kvs) (some (.dK gs))
  | ins {c : Str} {fs : List (Str × D)} {C dx : Addr} {gs : List (Str × V)} : mg c = some (.ref C) → RelFs K mg w fs gs → RelOb K mg w (.ins c fs) (some (.ins C dx gs))
  | gone {o : HO} : RelOb K mg w .gone (some o)

structure RelM (K : PySem.W.Frag) (mg : Str → Option Value) (T : List (Addr × Str)) (w : Wd) (μ : Mem) (H : Hp) : Prop where
  n : w.n = μ.length
  φ : ∀ a o, w.φ a = some o → H a = some o
  fr : ∀ a o, w.fr a = some o → H a = some o
  gr : ∀ a o, w.gr a = some o → H a = some o
  dj : ∀ a o, w.fr a = some o → w.φ a = none
  dg : ∀ a o, w.gr a = some o → w.φ a = none ∧ w.fr a = none
  ob : ∀ l b, μ[l]? = some b → RelOb K mg w b (H (w.ρ l)) ∧ (b ≠ .gone → w.φ (w.ρ l) = none ∧ w.fr (w.ρ l) = none ∧ w.gr (w.ρ l) = none)
  gn : ∀ l, μ[l]? = some .gone → ∃ o, w.φ (w.ρ l) = some o
  inj : ∀ l l', l < w.n → l' < w.n → w.ρ l = w.ρ l' → l = l'
  tabs : LamX.Tabs T H
  nt : ∀ a ps, w.φ a ≠ some (.tbl ps)

def RelX (K : PySem.W.Frag) (mg : Str → Option Value) (w : Wd) (x : Xn) (cls : Value) (d : Option Addr) : Prop :=
  ∃ C dd gs, mg x.cls = some (.ref C) ∧ cls = .ref C ∧ d = some dd ∧ w.φ dd = some (.xd gs) ∧ RelFs K mg w x.fs gs

/-- what a body has beside its data: the lambda that it was given; the exception that a suite holds -/
structure SI where
  T : List (Addr × Str)
  lam : V := .non
  exa : Addr := 0
  ecls : Value := .none
  edd : Option Addr := none

def RelS (K : PySem.W.Frag) (mg : Str → Option Value) (S : SI) (w : Wd) : D → V → Prop
  | .lam, v => v = S.lam
  | .exc c fs, v => v = .ref S.exa ∧ RelX K mg w ⟨c, fs⟩ S.ecls S.edd
  | d, v => RelD K mg w d v
def RelSv (K : PySem.W.Frag) (mg : Str → Option Value) (S : SI) (w : Wd) (δ : Sv) (σ : L2.St) : Prop :=
  δ.length = σ.length ∧ ∀ (i : Nat) (d : D), δ[i]? = some (some d) → ∃ v, σ[i]? = some (some v) ∧ RelS K mg S w d v

section
variable {K : PySem.W.Frag} {mg : Str → Option Value} {w w' : Wd} {T : List (Addr × Str)} {S : SI} {μ : Mem} {H : Hp}
theorem RelFs.monoW (le : w.Lw w') {fs gs} (h : RelFs K mg w fs gs) : RelFs K mg w' fs gs := ⟨h.1, RelDs.monoW le h.2⟩
theorem RelOb.monoW (le : w.Lw w') {b : Ob} {o : Option HO} (h : RelOb K mg w b o) : RelOb K mg w' b o := by
  cases h with
  | lst r => exact .lst (RelDs.monoW le r)
  | dct e r => exact .dct e (RelDs.monoW le r)
  | ins e r => exact .ins e (r.monoW le)
  | gone => exact .gone
theorem RelX.monoW (le : w.Lw w') {x : Xn} {c : Value} {d : Option Addr} (h : RelX K mg w x c d) : RelX K mg w' x c d := by
  obtain ⟨C, dd, gs, a, b, c, d, e⟩ := h
  exact ⟨C, dd, gs, a, b, c, le.φ _ _ d, e.monoW le⟩
theorem RelS.monoW (le : w.Lw w') : ∀ {d : D} {v : V}, RelS K mg S w d v → RelS K mg S w' d v
  | .lam, _, h => h
  | .exc _ _, _, h => ⟨h.1, h.2.monoW le⟩
  | .non, _, h => RelD.monoW (d := .non) le h
  | .bl _, _, h => RelD.monoW (d := .bl _) le h
  | .int _, _, h => RelD.monoW (d := .int _) le h
  | .str _, _, h => RelD.monoW (d := .str _) le h
  | .tup _, _, h => RelD.monoW (d := .tup _) le h
  | .lst _, _, h => RelD.monoW (d := .lst _) le h
  | .scr _, _, h => RelD.monoW (d := .scr _) le h
  | .brd _, _, h => RelD.monoW (d := .brd _) le h
  | .dct _, _, h => RelD.monoW (d := .dct _) le h
  | .loc _, _, h => RelD.monoW (d := .loc _) le h
  | .glb _, _, h => RelD.monoW (d := .glb _) le h
  | .ty _, _, h => RelD.monoW (d := .ty _) le h
theorem RelFs.mono (le : w.Le w') {fs gs} (h : RelFs K mg w fs gs) : RelFs K mg w' fs gs := h.monoW le.lw
theorem RelOb.mono (le : w.Le w') {b : Ob} {o : Option HO} (h : RelOb K mg w b o) : RelOb K mg w' b o := h.monoW le.lw
theorem RelX.mono (le : w.Le w') {x : Xn} {c : Value} {d : Option Addr} (h : RelX K mg w x c d) : RelX K mg w' x c d := h.monoW le.lw
theorem RelS.mono (le : w.Le w') {d : D} {v : V} (h : RelS K mg S w d v) : RelS K mg S w' d v := h.monoW le.lw
theorem RelS.of : ∀ {d : D} {v : V}, RelD K mg w d v → RelS K mg S w d v
  | .non, _, h => h
  | .bl _, _, h => h
  | .int _, _, h => h
  | .str _, _, h => h
  | .tup _, _, h => h
  | .lst _, _, h => h
  | .scr _, _, h => h
  | .brd _, _, h => h
  | .dct _, _, h => h
  | .loc _, _, h => h
  | .glb _, _, h => h
  | .ty _, _, h => h
  | .lam, _, h => nomatch h
  | .exc _ _, _, h => nomatch h
theorem RelSv.monoW (le : w.Lw w') {δ : Sv} {σ : L2.St} (h : RelSv K mg S w δ σ) : RelSv K mg S w' δ σ :=
  ⟨h.1, fun i d e => let ⟨v, a, b⟩ := h.2 i d e; ⟨v, a, b.monoW le⟩⟩
theorem RelSv.mono (le : w.Le w') {δ : Sv} {σ : L2.St} (h : RelSv K mg S w δ σ) : RelSv K mg S w' δ σ := h.monoW le.lw
theorem RelSv.set {δ : Sv} {σ : L2.St} (h : RelSv K mg S w δ σ) (i : Nat) {d : D} {v : V} (r : RelD K mg w d v) : RelSv K mg S w (δ.set i (some d)) (σ.set i (some v)) := by
  refine ⟨by simp [h.1], fun j e he => ?_⟩
  by_cases hj : i = j
  · subst hj
    by_cases hl : i < δ.length
    · rw [List.getElem?_set_self hl] at he
      cases he
      exact ⟨v, List.getElem?_set_self (by rw [← h.1]; exact hl), .of r⟩
    · rw [List.getElem?_eq_none (by simpa using hl)] at he
      cases he
  · rw [List.getElem?_set_ne hj] at he
    rw [List.getElem?_set_ne hj]
    exact h.2 j e he

/-! ### laying, changing -/
/-- the world where o is laid at p for good -/
def Wd.lay (w : Wd) (p : Addr) (o : HO) : Wd := { w with φ := upd w.φ p o }
/-- .. where a new place lies at p -/
def Wd.put (w : Wd) (p : Addr) : Wd := { w with n := w.n + 1, ρ := fun l => if l = w.n then p else w.ρ l }

theorem RelM.free (r : RelM K mg T w μ H) {p : Addr} (hp : H p = none) : w.φ p = none ∧ w.fr p = none ∧ w.gr p = none ∧ ∀ l, l < w.n → w.ρ l ≠ p := by
  refine ⟨?_, ?_, ?_, fun l hl e => ?_⟩
  · cases q : w.φ p with
    | none => rfl
    | some o => rw [r.φ p o q] at hp; cases hp
  · cases q : w.fr p with
    | none => rfl
    | some o => rw [r.fr p o q] at hp; cases hp
  · cases q : w.gr p with
    | none => rfl
    | some o => rw [r.gr p o q] at hp; cases hp
  · have hl' : l < μ.length := r.n ▸ hl
    have q := (r.ob l μ[l] (List.getElem?_eq_getElem hl')).1
    rw [e, hp] at q
    generalize μ[l] = b at q
    cases q
theorem RelM.lay_le (r : RelM K mg T w μ H) {p : Addr} (hp : H p = none) (o : HO) : w.Le (w.lay p o) :=
  ⟨Nat.le_refl _, fun _ _ => rfl, fun a u h => by
    have : a ≠ p := fun e => by rw [e, (r.free hp).1] at h; cases h
    show upd w.φ p o a = _
    rw [upd_ne this]; exact h, rfl, rfl⟩
theorem tabs_upd {p : Addr} {o : HO} (h : LamX.Tabs T H) (hp : H p = none) : LamX.Tabs T (upd H p o) := h.ext fun b u e => by
  have : b ≠ p := ne_of_none e hp
  rw [upd_ne this]; exact e
theorem RelM.lay (r : RelM K mg T w μ H) {p : Addr} (hp : H p = none) {o : HO} (ho : ∀ ps, o ≠ .tbl ps) : RelM K mg T (w.lay p o) μ (upd H p o) := by
  obtain ⟨f1, f2, fg, f3⟩ := r.free hp
  have le := r.lay_le hp o
  have old : ∀ {a u}, H a = some u → upd H p o a = some u := fun {a u} e => by rw [upd_ne (ne_of_none e hp)]; exact e
  refine ⟨r.n, fun a u h => ?_, fun a u h => old (r.fr a u h), fun a u h => old (r.gr a u h), fun a u h => ?_, fun a u h => ?_, fun l b hb => ?_, fun l hl => (r.gn l hl).imp fun u hu => le.φ _ _ hu, r.inj, tabs_upd r.tabs hp, fun a ps => ?_⟩
  · by_cases e : a = p
    · subst e
      have h' : upd w.φ a o a = some u := h
      rw [upd_same] at h' ⊢; exact h'
    · have h' : upd w.φ p o a = some u := h
      rw [upd_ne e] at h'
      exact old (r.φ a u h')
  · have h' : w.fr a = some u := h
    have : a ≠ p := fun e => by rw [e, f2] at h'; cases h'
    show upd w.φ p o a = none
    rw [upd_ne this]; exact r.dj a u h
  · have h' : w.gr a = some u := h
    have : a ≠ p := fun e => by rw [e, fg] at h'; cases h'
    refine ⟨?_, (r.dg a u h).2⟩
    show upd w.φ p o a = none
    rw [upd_ne this]; exact (r.dg a u h).1
  · obtain ⟨h1, h2⟩ := r.ob l b hb
    have hl : l < w.n := by rw [r.n]; exact (List.getElem?_eq_some_iff.mp hb).1
    have ne : w.ρ l ≠ p := f3 l hl
    refine ⟨?_, fun ng => ⟨?_, (h2 ng).2⟩⟩
    · show RelOb K mg (w.lay p o) b (upd H p o (w.ρ l))
      rw [upd_ne ne]; exact h1.mono le
    · show upd w.φ p o (w.ρ l) = none
      rw [upd_ne ne]; exact (h2 ng).1
  · show upd w.φ p o a ≠ _
    by_cases e : a = p
    · subst e; rw [upd_same]; exact fun z => ho ps (Option.some.inj z)
    · rw [upd_ne e]; exact r.nt a ps
theorem Wd.lay_at {p : Addr} {o : HO} : (w.lay p o).φ p = some o := upd_same
theorem Wd.put_le (w : Wd) (p : Addr) : w.Le (w.put p) := ⟨Nat.le_succ _, fun l h => if_neg (Nat.ne_of_lt h), fun _ _ h => h, rfl, rfl⟩
theorem Wd.put_at {w : Wd} {p : Addr} : (w.put p).ρ w.n = p := if_pos rfl
theorem RelM.put (r : RelM K mg T w μ H) {p : Addr} (hp : H p = none) {o : HO} {b : Ob} (hb : RelOb K mg w b (some o)) (ng : b ≠ .gone := by nofun) : RelM K mg T (w.put p) (μ ++ [b]) (upd H p o) := by
  obtain ⟨f1, f2, fg, f3⟩ := r.free hp
  have le := w.put_le p
  have old : ∀ {a u}, H a = some u → upd H p o a = some u := fun {a u} e => by rw [upd_ne (ne_of_none e hp)]; exact e
  refine ⟨?_, fun a u h => old (r.φ a u h), fun a u h => old (r.fr a u h), fun a u h => old (r.gr a u h), r.dj, r.dg, fun l c hc => ?_, fun l hl => ?_, fun l l' h h' e => ?_, tabs_upd r.tabs hp, r.nt⟩
  · show w.n + 1 = _
    simp [r.n]
  · by_cases e : l = w.n
    · subst e
      rw [r.n, List.getElem?_append_right (Nat.le_refl _)] at hc
      simp at hc
      subst hc
      rw [show (w.put p).ρ w.n = p from if_pos rfl]
      rw [upd_same]
      exact ⟨hb.mono le, fun _ => ⟨f1, f2, fg⟩⟩
    · have hl : l < μ.length := by
        have := (List.getElem?_eq_some_iff.mp hc).1
        simp at this
        have := r.n
        omega
      rw [List.getElem?_append_left hl] at hc
      obtain ⟨h1, h2⟩ := r.ob l c hc
      have hn : l < w.n := by rw [r.n]; exact hl
      rw [show (w.put p).ρ l = w.ρ l from if_neg e]
      rw [upd_ne (f3 l hn)]
      exact ⟨h1.mono le, h2⟩
  · by_cases e : l < μ.length
    · rw [List.getElem?_append_left e] at hl
      obtain ⟨u, hu⟩ := r.gn l hl
      refine ⟨u, ?_⟩
      show w.φ ((w.put p).ρ l) = some u
      rw [show (w.put p).ρ l = w.ρ l from if_neg (by have := r.n; omega)]
      exact hu
    · rw [List.getElem?_append_right (by omega)] at hl
      cases k : l - μ.length with
      | zero => rw [k] at hl; cases hl; exact absurd rfl ng
      | succ n => rw [k] at hl; cases hl
  · have h1 : l < w.n + 1 := h
    have h2 : l' < w.n + 1 := h'
    by_cases e1 : l = w.n
    · by_cases e2 : l' = w.n
      · rw [e1, e2]
      · rw [show (w.put p).ρ l = p from if_pos e1, show (w.put p).ρ l' = w.ρ l' from if_neg e2] at e
        exact absurd e.symm (f3 l' (by omega))
    · by_cases e2 : l' = w.n
      · rw [show (w.put p).ρ l = w.ρ l from if_neg e1, show (w.put p).ρ l' = p from if_pos e2] at e
        exact absurd e (f3 l (by omega))
      · rw [show (w.put p).ρ l = w.ρ l from if_neg e1, show (w.put p).ρ l' = w.ρ l' from if_neg e2] at e
        exact r.inj l l' (by omega) (by omega) e
/-- the object of a changing thing -/
def chg : HO → Bool
  | .lst _ => true
  | .dK _ => true
  | .dT _ => true
  | .ins _ _ _ => true
  | _ => false
theorem RelOb.chg {b : Ob} {o : HO} (ng : b ≠ .gone) (h : RelOb K mg w b (some o)) : chg o = true := by
  cases h with
  | gone => exact absurd rfl ng
  | _ => rfl
theorem tabs_chg {p : Addr} {o o' : HO} (h : LamX.Tabs T H) (hp : H p = some o) (hc : chg o = true) : LamX.Tabs T (upd H p o') := fun q hq => by
  obtain ⟨ps, h1, h2, h3⟩ := h q hq
  have ne : ∀ {a u}, H a = some u → chg u = false → a ≠ p := fun {a u} e z x => by
    rw [x, hp] at e; cases e; rw [hc] at z; cases z
  refine ⟨ps, by rw [upd_ne (ne h1 rfl)]; exact h1, h2, fun pos cv hcv => ?_⟩
  obtain ⟨c, e1, e2⟩ := h3 pos cv hcv
  exact ⟨c, e1, by rw [upd_ne (ne e2 rfl)]; exact e2⟩
theorem RelM.write (r : RelM K mg T w μ H) {l : Nat} {b b' : Ob} {o' : HO} (hl : μ[l]? = some b) (ng : b ≠ .gone) (hb : RelOb K mg w b' (some o')) (ng' : b' ≠ .gone := by nofun) : RelM K mg T w (μ.set l b') (upd H (w.ρ l) o') := by
  obtain ⟨h1, hng⟩ := r.ob l b hl
  obtain ⟨h2, h3, h4⟩ := hng ng
  have hlt : l < μ.length := (List.getElem?_eq_some_iff.mp hl).1
  obtain ⟨o, ho⟩ : ∃ o, H (w.ρ l) = some o := by
    cases e : H (w.ρ l) with
    | none => rw [e] at h1; cases h1
    | some o => exact ⟨o, rfl⟩
  have hc : chg o = true := by rw [ho] at h1; exact h1.chg ng
  refine ⟨by simp [r.n], fun a u h => ?_, fun a u h => ?_, fun a u h => ?_, r.dj, r.dg, fun l' c hc' => ?_, fun l' hl' => ?_, r.inj, tabs_chg r.tabs ho hc, r.nt⟩
  · rw [upd_ne (fun e => by rw [e, h2] at h; cases h)]; exact r.φ a u h
  · rw [upd_ne (fun e => by rw [e, h3] at h; cases h)]; exact r.fr a u h
  · rw [upd_ne (fun e => by rw [e, h4] at h; cases h)]; exact r.gr a u h
  · by_cases e : l = l'
    · subst e
      rw [List.getElem?_set_self hlt] at hc'
      cases hc'
      rw [upd_same]
      exact ⟨hb, fun _ => ⟨h2, h3, h4⟩⟩
    · rw [List.getElem?_set_ne e] at hc'
      have hlt' : l' < μ.length := (List.getElem?_eq_some_iff.mp hc').1
      have ne : w.ρ l' ≠ w.ρ l := fun z => e (r.inj l l' (by rw [r.n]; exact hlt) (by rw [r.n]; exact hlt') z.symm)
      rw [upd_ne ne]
      exact r.ob l' c hc'
  · by_cases e : l = l'
    · subst e
      rw [List.getElem?_set_self hlt] at hl'
      exact absurd (Option.some.inj hl') ng'
    · rw [List.getElem?_set_ne e] at hl'
      exact r.gn l' hl'
end

section
variable {K : PySem.W.Frag} {mg : Str → Option Value} {w w' : Wd} {T : List (Addr × Str)} {μ : Mem} {H : Hp}
/-- what is being made, at p -/
def Wd.grow (w : Wd) (p : Addr) (o : HO) : Wd := { w with gr := upd w.gr p o }
theorem Wd.grow_lw (w : Wd) (p : Addr) (o : HO) : w.Lw (w.grow p o) := ⟨Nat.le_refl _, fun _ _ => rfl, fun _ _ h => h, rfl⟩
theorem Wd.grow_wl (w : Wd) (p : Addr) (o : HO) : (w.grow p o).Lw w := ⟨Nat.le_refl _, fun _ _ => rfl, fun _ _ h => h, rfl⟩
theorem RelM.grow (r : RelM K mg T w μ H) {p : Addr} (hp : H p = none) (o : HO) : RelM K mg T (w.grow p o) μ (upd H p o) := by
  obtain ⟨f1, f2, fg, f3⟩ := r.free hp
  have old : ∀ {a u}, H a = some u → upd H p o a = some u := fun {a u} e => by rw [upd_ne (ne_of_none e hp)]; exact e
  refine ⟨r.n, fun a u h => old (r.φ a u h), fun a u h => old (r.fr a u h), fun a u h => ?_, r.dj, fun a u h => ?_, fun l b hb => ?_, r.gn, r.inj, tabs_upd r.tabs hp, r.nt⟩
  · have h' : upd w.gr p o a = some u := h
    by_cases e : a = p
    · subst e
      rw [upd_same] at h' ⊢; exact h'
    · rw [upd_ne e] at h'
      exact old (r.gr a u h')
  · have h' : upd w.gr p o a = some u := h
    by_cases e : a = p
    · subst e
      exact ⟨f1, f2⟩
    · rw [upd_ne e] at h'
      exact r.dg a u h'
  · obtain ⟨h1, h2⟩ := r.ob l b hb
    have hl : l < w.n := by rw [r.n]; exact (List.getElem?_eq_some_iff.mp hb).1
    have ne : w.ρ l ≠ p := f3 l hl
    refine ⟨?_, fun ng => ⟨(h2 ng).1, (h2 ng).2.1, ?_⟩⟩
    · show RelOb K mg (w.grow p o) b (upd H p o (w.ρ l))
      rw [upd_ne ne]; exact h1.monoW (w.grow_lw p o)
    · show upd w.gr p o (w.ρ l) = none
      rw [upd_ne ne]; exact (h2 ng).2.2
theorem RelM.regrow (r : RelM K mg T w μ H) {p : Addr} {o : HO} (hp : w.gr p = some o) (hc : chg o = true) (o' : HO) : RelM K mg T (w.grow p o') μ (upd H p o') := by
  have hH := r.gr p o hp
  obtain ⟨f1, f2⟩ := r.dg p o hp
  have np : ∀ {a u}, w.φ a = some u → a ≠ p := fun {a u} e z => by rw [z, f1] at e; cases e
  have nf : ∀ {a u}, w.fr a = some u → a ≠ p := fun {a u} e z => by rw [z, f2] at e; cases e
  have nl : ∀ l b, μ[l]? = some b → w.ρ l ≠ p ∨ b = .gone := fun l b hb => by
    by_cases ng : b = .gone
    · exact .inr ng
    · left
      intro z
      have := ((r.ob l b hb).2 ng).2.2
      rw [z, hp] at this
      cases this
  refine ⟨r.n, fun a u h => by rw [upd_ne (np h)]; exact r.φ a u h, fun a u h => by rw [upd_ne (nf h)]; exact r.fr a u h, fun a u h => ?_, r.dj, fun a u h => ?_, fun l b hb => ?_, r.gn, r.inj, tabs_chg r.tabs hH hc, r.nt⟩
  · have h' : upd w.gr p o' a = some u := h
    by_cases e : a = p
    · subst e
      rw [upd_same] at h' ⊢; exact h'
    · rw [upd_ne e] at h' ⊢
      exact r.gr a u h'
  · have h' : upd w.gr p o' a = some u := h
    by_cases e : a = p
    · subst e
      exact ⟨f1, f2⟩
    · rw [upd_ne e] at h'
      exact r.dg a u h'
  · obtain ⟨h1, h2⟩ := r.ob l b hb
    rcases nl l b hb with ne | rfl
    · refine ⟨?_, fun ng => ⟨(h2 ng).1, (h2 ng).2.1, ?_⟩⟩
      · show RelOb K mg (w.grow p o') b (upd H p o' (w.ρ l))
        rw [upd_ne ne]; exact h1.monoW (w.grow_lw p o')
      · show upd w.gr p o' (w.ρ l) = none
        rw [upd_ne ne]; exact (h2 ng).2.2
    · refine ⟨?_, fun ng => absurd rfl ng⟩
      show RelOb K mg (w.grow p o') .gone (upd H p o' (w.ρ l))
      by_cases z : w.ρ l = p
      · rw [z, upd_same]; exact .gone
      · rw [upd_ne z]; exact h1.monoW (w.grow_lw p o')
/-- it is made: laid for good -/
def Wd.done (w : Wd) (p : Addr) (o : HO) (g : Hp) : Wd := { w with φ := upd w.φ p o, gr := g }
theorem RelM.done (r : RelM K mg T w μ H) {p : Addr} {o : HO} {g : Hp} (hp : w.gr p = some o) (hg : ∀ a, a ≠ p → g a = w.gr a) (gp : g p = none) (ho : ∀ ps, o ≠ .tbl ps) : RelM K mg T (w.done p o g) μ H := by
  have hH := r.gr p o hp
  obtain ⟨f1, f2⟩ := r.dg p o hp
  have lw : w.Lw (w.done p o g) := ⟨Nat.le_refl _, fun _ _ => rfl, fun a u h => by
    have : a ≠ p := fun e => by rw [e, f1] at h; cases h
    show upd w.φ p o a = _
    rw [upd_ne this]; exact h, rfl⟩
  have gg : ∀ {a u}, g a = some u → a ≠ p ∧ w.gr a = some u := fun {a u} h => by
    have : a ≠ p := fun e => by rw [e, gp] at h; cases h
    exact ⟨this, by rw [← hg a this]; exact h⟩
  refine ⟨r.n, fun a u h => ?_, r.fr, fun a u h => r.gr a u (gg h).2, fun a u h => ?_, fun a u h => ?_, fun l b hb => ?_, fun l hl => (r.gn l hl).imp fun u hu => lw.φ _ _ hu, r.inj, r.tabs, fun a ps => ?_⟩
  · have h' : upd w.φ p o a = some u := h
    by_cases e : a = p
    · subst e; rw [upd_same] at h'; cases h'; exact hH
    · rw [upd_ne e] at h'; exact r.φ a u h'
  · have h' : w.fr a = some u := h
    have : a ≠ p := fun e => by rw [e, f2] at h'; cases h'
    show upd w.φ p o a = none
    rw [upd_ne this]; exact r.dj a u h
  · obtain ⟨h1, h2⟩ := gg h
    refine ⟨?_, (r.dg a u h2).2⟩
    show upd w.φ p o a = none
    rw [upd_ne h1]; exact (r.dg a u h2).1
  · obtain ⟨h1, h2⟩ := r.ob l b hb
    refine ⟨h1.monoW lw, fun ng => ?_⟩
    obtain ⟨k1, k2, k3⟩ := h2 ng
    have ne : w.ρ l ≠ p := fun z => by rw [z, hp] at k3; cases k3
    refine ⟨?_, k2, ?_⟩
    · show upd w.φ p o (w.ρ l) = none
      rw [upd_ne ne]; exact k1
    · show g (w.ρ l) = none
      rw [hg _ ne]; exact k3
  · show upd w.φ p o a ≠ _
    by_cases e : a = p
    · subst e; rw [upd_same]; exact fun z => ho ps (Option.some.inj z)
    · rw [upd_ne e]; exact r.nt a ps
end

/-! ### how a piece of code ends -/
def Out.to {α : Type} (o : Out α) (Q : α → Mem → Prop) (E : Xn → Mem → Prop) : Prop := match o with
  | .ok a μ => Q a μ
  | .exc x μ => E x μ
  | .stuck => False
def Out.bind {α β : Type} (o : Out α) (f : α → Mem → Out β) : Out β := match o with
  | .ok a μ => f a μ
  | .exc x μ => .exc x μ
  | .stuck => .stuck
theorem Out.to_bind {α β : Type} {o : Out α} {f : α → Mem → Out β} {Q E} (h : (o.bind f).to Q E) : o.to (fun a μ => (f a μ).to Q E) E := by
  cases o <;> exact h
theorem Out.to_mono {α : Type} {o : Out α} {Q Q' E E'} (h : o.to Q E) (hQ : ∀ a μ, Q a μ → Q' a μ) (hE : ∀ a μ, E a μ → E' a μ) : o.to Q' E' := by
  cases o with
  | ok a μ => exact hQ _ _ h
  | exc x μ => exact hE _ _ h
  | stuck => exact h

abbrev EM := Sv → Mem → Out D
abbrev TM := Sv → Mem → Out Bool
abbrev AM := Sv → Mem → Out (List D)

section
variable (K : PySem.W.Frag) (mg : Str → Option Value) (S : SI) (W : WX)
/-- the state of the world ahead of what is left to be done -/
def At {α β : Type} (R : Wd → α → β → Prop) (σ : L2.St) (Q : β → Hp → Prop) (w : Wd) (δ : Sv) (μ : Mem) (H : Hp) (o : Out α) : Prop :=
  RelSv K mg S w δ σ ∧ RelM K mg S.T w μ H ∧
    o.to (fun d μ' => ∀ w' v H', w.Le w' → RelM K mg S.T w' μ' H' → R w' d v → Q v H') (fun x μ' => ∀ w' cls dd H', w.Le w' → RelM K mg S.T w' μ' H' → RelX K mg w' x cls dd → W cls dd σ H')
/-- the reading of a piece of code that does what m says -/
def tM {α β : Type} (R : Wd → α → β → Prop) (m : Sv → Mem → Out α) : L2.St → Hp → (β → Hp → Prop) → Prop := fun σ H Q => ∃ w δ μ, At K mg S W R σ Q w δ μ H (m δ μ)
abbrev tE (m : EM) : TE := tM K mg S W (RelD K mg) m
abbrev tT (m : TM) : TT := tM K mg S W (fun _ (a b : Bool) => a = b) m
abbrev tA (m : AM) : TA := tM K mg S W (RelDs K mg) m
end
section
variable {K : PySem.W.Frag} {mg : Str → Option Value} {S : SI} {W : WX} {α β γ ε : Type} {R : Wd → α → β → Prop} {R' : Wd → γ → ε → Prop} {σ : L2.St} {w : Wd} {δ : Sv} {μ : Mem} {H : Hp}
/-- one piece, then the rest -/
theorem At.bind {o : Out α} {f : α → Mem → Out γ} {Q : ε → Hp → Prop} (h : At K mg S W R' σ Q w δ μ H (o.bind f)) :
    At K mg S W R σ (fun v H1 => ∃ w1 μ1 d, w.Le w1 ∧ R w1 d v ∧ At K mg S W R' σ Q w1 δ μ1 H1 (f d μ1)) w δ μ H o := by
  obtain ⟨h1, h2, h3⟩ := h
  refine ⟨h1, h2, ?_⟩
  cases o with
  | stuck => exact h3
  | exc x μ' => exact h3
  | ok a μ' =>
    intro w' v H' le rm rd
    refine ⟨w', μ', a, le, rd, h1.mono le, rm, ?_⟩
    exact Out.to_mono (show (f a μ').to _ _ from h3) (fun d μ2 q w2 v2 H2 le2 => q w2 v2 H2 (le.trans le2)) (fun x μ2 q w2 c d H2 le2 => q w2 c d H2 (le.trans le2))
theorem At.mono {o : Out α} {Q Q' : β → Hp → Prop} (h : At K mg S W R σ Q w δ μ H o) (hQ : ∀ v H', Q v H' → Q' v H') : At K mg S W R σ Q' w δ μ H o :=
  ⟨h.1, h.2.1, Out.to_mono h.2.2 (fun _ _ q w' v H' a b c => hQ _ _ (q w' v H' a b c)) fun _ _ q => q⟩
theorem At.tM {m : Sv → Mem → Out α} {Q : β → Hp → Prop} (h : At K mg S W R σ Q w δ μ H (m δ μ)) : tM K mg S W R m σ H Q := ⟨w, δ, μ, h⟩
/-- a piece that ends at once, the memory as it is -/
theorem At.pure {d : α} {Q : β → Hp → Prop} (h : At K mg S W R σ Q w δ μ H (.ok d μ)) {v : β} (r : R w d v) : Q v H := h.2.2 w v H (Wd.Le.refl _) h.2.1 r
end
end Kw

set_option Elab.async false
set_option linter.all false
set_option maxRecDepth 100000
namespace Kw
open PySem PySem.Spec PyProof.Rows L2

/-! ### readings, weakened -/
section
variable {X : Cx}
theorem PEi {e : Expr} {t t' : TE} (h : PE X e t') (i : ∀ σ H Q, t σ H Q → t' σ H Q) : PE X e t := ⟨fun pins s σ H Q I q => h.run pins s σ H Q I (i _ _ _ q)⟩
theorem PTi {e : Expr} {t t' : TT} (h : PT X e t') (i : ∀ σ H Q, t σ H Q → t' σ H Q) : PT X e t := ⟨fun pins s σ H Q I q => h.run pins s σ H Q I (i _ _ _ q)⟩
theorem PAi {e : List Expr} {t t' : TA} (h : PA X e t') (i : ∀ σ H Q, t σ H Q → t' σ H Q) : PA X e t := ⟨fun pos pins s σ H Q I q => h.run pos pins s σ H Q I (i _ _ _ q)⟩
theorem PKi {e : List Keyword} {t t' : TA} (h : PK X e t') (i : ∀ σ H Q, t σ H Q → t' σ H Q) : PK X e t := ⟨fun pos pins s σ H Q I q => h.run pos pins s σ H Q I (i _ _ _ q)⟩
theorem PSi {e : Stmt} {t t' : TS} (h : PS X e t') (i : ∀ D σ H, t D σ H → t' D σ H) : PS X e t := ⟨fun pins s σ H D I q => h.run pins s σ H D I (i _ _ _ q)⟩
theorem PSsi {e : List Stmt} {t t' : TS} (h : PSs X e t') (i : ∀ D σ H, t D σ H → t' D σ H) : PSs X e t := ⟨fun pins s σ H D I q => h.run pins s σ H D I (i _ _ _ q)⟩
end

/-! ### lists of data -/
/-- the items of a list (as it stands), of one that was made here, of a tuple -/
def lstOf (μ : Mem) : D → Option (List D)
  | .lst xs => some xs
  | .scr xs => some xs
  | .loc l => match μ[l]? with
    | some (.lst xs) => some xs
    | _ => none
  | _ => none
def lstX (μ : Mem) : D → Option (List D)
  | .lst xs => some xs
  | .loc l => match μ[l]? with
    | some (.lst xs) => some xs
    | _ => none
  | _ => none
def tupOf : D → Option (List D)
  | .tup xs => some xs
  | _ => none
def seqOf (μ : Mem) (d : D) : Option (List D) := match d with
  | .tup xs => some xs
  | d => lstOf μ d

section
variable {K : PySem.W.Frag} {mg : Str → Option Value} {w w' : Wd} {T : List (Addr × Str)} {μ : Mem} {H : Hp}
theorem RelM.lst (r : RelM K mg T w μ H) {l : Nat} {xs : List D} (h : μ[l]? = some (.lst xs)) : ∃ vs, H (w.ρ l) = some (.lst vs) ∧ RelDs K mg w xs vs := by
  have q := (r.ob l _ h).1
  generalize e : H (w.ρ l) = o at q
  cases q with
  | lst rs => exact ⟨_, rfl, rs⟩
theorem scr_H (r : RelM K mg T w μ H) {a : Addr} {vs : List V} (e : SqL K w.φ a vs ∨ w.fr a = some (.lst vs)) : SqL K H a vs := e.elim (sqL_mono r.φ) fun h => .inl (.inl (r.fr _ _ h))
theorem lstOf_rel (r : RelM K mg T w μ H) {d : D} {v : V} {xs : List D} (rd : RelD K mg w d v) (h : lstOf μ d = some xs) : ∃ a vs, v = .ref a ∧ SqL K H a vs ∧ RelDs K mg w xs vs := by
  cases rd with
  | lst e rs => cases h; exact ⟨_, _, rfl, .inl (.inl (r.φ _ _ e)), rs⟩
  | scr e rs => cases h; exact ⟨_, _, rfl, scr_H r e, rs⟩
  | @loc l hl =>
    simp only [lstOf] at h
    split at h
    · next ys q =>
      cases h
      obtain ⟨vs, h1, h2⟩ := r.lst q
      exact ⟨_, vs, rfl, .inl (.inl h1), h2⟩
    · cases h
  | _ => cases h
theorem lstX_rel (r : RelM K mg T w μ H) {d : D} {v : V} {xs : List D} (rd : RelD K mg w d v) (h : lstX μ d = some xs) : ∃ a vs, v = .ref a ∧ H a = some (.lst vs) ∧ RelDs K mg w xs vs := by
  cases rd with
  | lst e rs => cases h; exact ⟨_, _, rfl, r.φ _ _ e, rs⟩
  | @loc l hl =>
    simp only [lstX] at h
    split at h
    · next ys q =>
      cases h
      obtain ⟨vs, h1, h2⟩ := r.lst q
      exact ⟨_, vs, rfl, h1, h2⟩
    · cases h
  | _ => cases h
theorem tupOf_rel (r : RelM K mg T w μ H) {d : D} {v : V} {xs : List D} (rd : RelD K mg w d v) (h : tupOf d = some xs) : ∃ a vs, v = .ref a ∧ SqT K H a vs ∧ RelDs K mg w xs vs := by
  cases rd with
  | tup e rs => cases h; exact ⟨_, _, rfl, sqT_mono r.φ e, rs⟩
  | _ => cases h
theorem seqOf_rel (r : RelM K mg T w μ H) {d : D} {v : V} {xs : List D} (rd : RelD K mg w d v) (h : seqOf μ d = some xs) : ∃ a vs, v = .ref a ∧ (SqL K H a vs ∨ SqT K H a vs) ∧ RelDs K mg w xs vs := by
  unfold seqOf at h
  split at h
  · cases h
    obtain ⟨a, vs, h1, h2, h3⟩ := tupOf_rel r rd rfl
    exact ⟨a, vs, h1, .inr h2, h3⟩
  · obtain ⟨a, vs, h1, h2, h3⟩ := lstOf_rel r rd h
    exact ⟨a, vs, h1, .inl h2, h3⟩

theorem RelDs.get : ∀ {ds : List D} {vs : List V}, RelDs K mg w ds vs → ∀ {i : Nat} {d : D}, ds[i]? = some d → ∃ v, vs[i]? = some v ∧ RelD K mg w d v
  | _, _, .nil, i, d, e => by simp at e
  | _, _, .cons h t, 0, d, e => by cases e; exact ⟨_, rfl, h⟩
  | _, _, .cons h t, i + 1, d, e => RelDs.get t (i := i) e
theorem RelDs.get' : ∀ {ds : List D} {vs : List V}, RelDs K mg w ds vs → ∀ {i : Nat} {v : V}, vs[i]? = some v → ∃ d, ds[i]? = some d ∧ RelD K mg w d v
  | _, _, .nil, i, d, e => by simp at e
  | _, _, .cons h t, 0, d, e => by cases e; exact ⟨_, rfl, h⟩
  | _, _, .cons h t, i + 1, d, e => RelDs.get' t (i := i) e
theorem RelDs.append : ∀ {ds es : List D} {vs us : List V}, RelDs K mg w ds vs → RelDs K mg w es us → RelDs K mg w (ds ++ es) (vs ++ us)
  | _, _, _, _, .nil, h => h
  | _, _, _, _, .cons a t, h => .cons a (t.append h)
theorem RelDs.one {d : D} {v : V} (h : RelD K mg w d v) : RelDs K mg w [d] [v] := .cons h .nil
theorem RelDs.drop : ∀ (n : Nat) {ds : List D} {vs : List V}, RelDs K mg w ds vs → RelDs K mg w (ds.drop n) (vs.drop n)
  | 0, _, _, h => by simpa using h
  | n + 1, _, _, .nil => by simpa using RelDs.nil
  | n + 1, _, _, .cons _ t => by simpa using t.drop n
theorem RelDs.take : ∀ (n : Nat) {ds : List D} {vs : List V}, RelDs K mg w ds vs → RelDs K mg w (ds.take n) (vs.take n)
  | 0, _, _, h => by simpa using RelDs.nil
  | n + 1, _, _, .nil => by simpa using RelDs.nil
  | n + 1, _, _, .cons a t => by simpa using RelDs.cons a (t.take n)
theorem RelDs.reverse : ∀ {ds : List D} {vs : List V}, RelDs K mg w ds vs → RelDs K mg w ds.reverse vs.reverse
  | _, _, .nil => .nil
  | _, _, .cons a t => by simpa using t.reverse.append (.one a)
theorem RelDs.set : ∀ {ds : List D} {vs : List V}, RelDs K mg w ds vs → ∀ (i : Nat) {d : D} {v : V}, RelD K mg w d v → RelDs K mg w (ds.set i d) (vs.set i v)
  | _, _, .nil, _, _, _, _ => .nil
  | _, _, .cons a t, 0, _, _, h => .cons h t
  | _, _, .cons a t, i + 1, _, _, h => .cons a (t.set i h)
theorem RelDs.eraseIdx : ∀ {ds : List D} {vs : List V}, RelDs K mg w ds vs → ∀ (i : Nat), RelDs K mg w (ds.eraseIdx i) (vs.eraseIdx i)
  | _, _, .nil, _ => .nil
  | _, _, .cons a t, 0 => t
  | _, _, .cons a t, i + 1 => .cons a (t.eraseIdx i)
theorem RelDs.atI {ds : List D} {vs : List V} (h : RelDs K mg w ds vs) {i : Int} {d : D} (e : atI ds i = some d) : ∃ v, L2.atI vs i = some v ∧ RelD K mg w d v := by
  unfold L2.atI at e ⊢
  rw [← h.length]
  cases q : ixN ds.length i with
  | none => rw [q] at e; cases e
  | some j => rw [q] at e; exact h.get e
theorem RelDs.cutV {ds : List D} {vs : List V} (h : RelDs K mg w ds vs) (lo hi : Option Int) : RelDs K mg w ((ds.drop (HT.sIx ds.length 0 lo)).take (HT.sIx ds.length ds.length hi - HT.sIx ds.length 0 lo)) (L2.cutV vs lo hi) := by
  unfold L2.cutV
  rw [← h.length]
  exact (h.drop _).take _
end
end Kw

set_option Elab.async false
set_option linter.all false
set_option maxRecDepth 100000
namespace Kw
open PySem PySem.Spec PyProof.Rows L2

/-! ### operations by data -/
def oOf (o : Option D) (μ : Mem) : Out D := match o with
  | some d => .ok d μ
  | none => .stuck
def oOfM (o : Option (D × Mem)) : Out D := match o with
  | some (d, μ) => .ok d μ
  | none => .stuck
section
variable (K : PySem.W.Frag) (mg : Str → Option Value) (T : List (Addr × Str))
/-- a value d comes, the memory as it is -/
def Then1 (w : Wd) (μ : Mem) (Q : VK) (d : D) : Prop := ∀ w' v H', w.Le w' → RelM K mg T w' μ H' → RelD K mg w' d v → Q v H'
def rD2 (g : D → D → Mem → Option D) : R2 := fun x y H Q => ∃ w μ dx dy d, RelM K mg T w μ H ∧ RelD K mg w dx x ∧ RelD K mg w dy y ∧ g dx dy μ = some d ∧ Then1 K mg T w μ Q d
def rD1 (g : D → Mem → Option D) : V → Hp → VK → Prop := fun x H Q => ∃ w μ dx d, RelM K mg T w μ H ∧ RelD K mg w dx x ∧ g dx μ = some d ∧ Then1 K mg T w μ Q d
def rDs (g : List D → Mem → Option D) : List V → Hp → VK → Prop := fun xs H Q => ∃ w μ ds d, RelM K mg T w μ H ∧ RelDs K mg w ds xs ∧ g ds μ = some d ∧ Then1 K mg T w μ Q d
def rDm (g : D → List D → Mem → Option (D × Mem)) : V → List V → Hp → VK → Prop := fun x xs H Q => ∃ w μ dx ds d μ', RelM K mg T w μ H ∧ RelD K mg w dx x ∧ RelDs K mg w ds xs ∧ g dx ds μ = some (d, μ') ∧ Then1 K mg T w μ' Q d
end
section
variable {K : PySem.W.Frag} {mg : Str → Option Value} {S : SI} {W : WX} {T : List (Addr × Str)} {w : Wd} {μ : Mem} {H : Hp} {Q : VK} {σ : L2.St} {δ : Sv}
theorem Then1.same {d : D} {v : V} (q : Then1 K mg T w μ Q d) (r : RelM K mg T w μ H) (rd : RelD K mg w d v) : Q v H := q w v H (Wd.Le.refl _) r rd
theorem Then1.lst {ds : List D} {vs : List V} (q : Then1 K mg T w μ Q (.lst ds)) (r : RelM K mg T w μ H) (rs : RelDs K mg w ds vs) : ∀ p, H p = none → Q (.ref p) (upd H p (.lst vs)) := fun p hp =>
  q (w.lay p (.lst vs)) _ _ (r.lay_le hp _) (r.lay hp (fun _ => nofun)) (.lst Wd.lay_at (RelDs.mono (r.lay_le hp _) rs))
theorem Then1.tup {ds : List D} {vs : List V} (q : Then1 K mg T w μ Q (.tup ds)) (r : RelM K mg T w μ H) (rs : RelDs K mg w ds vs) : ∀ p, H p = none → Q (.ref p) (upd H p (.tup vs)) := fun p hp =>
  q (w.lay p (.tup vs)) _ _ (r.lay_le hp _) (r.lay hp (fun _ => nofun)) (.tup (.inl (.inl Wd.lay_at)) (RelDs.mono (r.lay_le hp _) rs))
theorem At.opt {o : Option D} (h : At K mg S W (RelD K mg) σ Q w δ μ H (oOf o μ)) : ∃ d, o = some d ∧ Then1 K mg S.T w μ Q d := by
  cases o with
  | none => exact h.2.2.elim
  | some d => exact ⟨d, rfl, h.2.2⟩
theorem At.optM {o : Option (D × Mem)} (h : At K mg S W (RelD K mg) σ Q w δ μ H (oOfM o)) : ∃ d μ', o = some (d, μ') ∧ Then1 K mg S.T w μ' Q d := by
  cases o with
  | none => exact h.2.2.elim
  | some d => exact ⟨d.1, d.2, rfl, h.2.2⟩
end

/-! ### expressions -/
abbrev TEm (X : Cx) (S : SI) (W : WX) (m : EM) : TE := tE X.K X.mg S W m
abbrev TTm (X : Cx) (S : SI) (W : WX) (m : TM) : TT := tT X.K X.mg S W m
abbrev TAm (X : Cx) (S : SI) (W : WX) (m : AM) : TA := tA X.K X.mg S W m
def eVar (i : Nat) : EM := fun δ μ => match δ[i]? with
  | some (some d) => match d with
    | .lam => .stuck
    | .exc _ _ => .stuck
    | d => .ok d μ
  | _ => .stuck
def eC (d : D) : EM := fun _ μ => .ok d μ
def e1 (g : D → Mem → Option D) (ma : EM) : EM := fun δ μ => (ma δ μ).bind fun x μ1 => oOf (g x μ1) μ1
def e2 (g : D → D → Mem → Option D) (ma mb : EM) : EM := fun δ μ => (ma δ μ).bind fun x μ1 => (mb δ μ1).bind fun y μ2 => oOf (g x y μ2) μ2
def eAs (g : List D → Mem → Option D) (ma : AM) : EM := fun δ μ => (ma δ μ).bind fun xs μ1 => oOf (g xs μ1) μ1
def eMt (g : D → List D → Mem → Option (D × Mem)) (mo : EM) (ma : AM) : EM := fun δ μ => (mo δ μ).bind fun x μ1 => (ma δ μ1).bind fun xs μ2 => oOfM (g x xs μ2)
def aNil : AM := fun _ μ => .ok [] μ
def aCons (ma : EM) (mr : AM) : AM := fun δ μ => (ma δ μ).bind fun x μ1 => (mr δ μ1).bind fun xs μ2 => .ok (x :: xs) μ2
def truD (μ : Mem) : D → Option Bool
  | .non => some false
  | .bl b => some b
  | .int i => some (i != 0)
  | .str y => if y.length ≤ sizeLine then some ((y.length : Int) != 0) else none
  | .tup xs => some !xs.isEmpty
  | .lst xs => some !xs.isEmpty
  | .scr xs => some !xs.isEmpty
  | .dct kvs => none
  | .loc l => match μ[l]? with
    | some (.lst xs) => some !xs.isEmpty
    | some (.dct kvs) => some !kvs.isEmpty
    | _ => none
  | _ => none
def bOf (o : Option Bool) (μ : Mem) : Out Bool := match o with
  | some d => .ok d μ
  | none => .stuck
/-- a test: the value's truth -/
def tTru (ma : EM) : TM := fun δ μ => (ma δ μ).bind fun x μ1 => bOf (truD μ1 x) μ1
def tNotM (ma : TM) : TM := fun δ μ => (ma δ μ).bind fun b μ1 => .ok (!b) μ1
def tAndM (ma mb : TM) : TM := fun δ μ => (ma δ μ).bind fun b μ1 => if b = true then mb δ μ1 else .ok false μ1
def tOrM (ma mb : TM) : TM := fun δ μ => (ma δ μ).bind fun b μ1 => if b = true then .ok true μ1 else mb δ μ1
def eNotM (ma : EM) : EM := fun δ μ => (ma δ μ).bind fun x μ1 => (bOf (truD μ1 x) μ1).bind fun b μ2 => .ok (.bl !b) μ2
def eAndM (ma mb : EM) : EM := fun δ μ => (ma δ μ).bind fun x μ1 => (bOf (truD μ1 x) μ1).bind fun b μ2 => if b = true then mb δ μ2 else .ok x μ2
def eOrM (ma mb : EM) : EM := fun δ μ => (ma δ μ).bind fun x μ1 => (bOf (truD μ1 x) μ1).bind fun b μ2 => if b = true then .ok x μ2 else mb δ μ2
def eIfM (mt : TM) (ma mb : EM) : EM := fun δ μ => (mt δ μ).bind fun b μ1 => if b = true then ma δ μ1 else mb δ μ1

section
variable {X : Cx} {S : SI} {W : WX} {a b c e : Expr} {es : List Expr} {ma mb : EM} {mt mu : TM} {mr : AM} {pos p apos : Pos} {x : Str}
theorem pe_var' {i : Nat} (hN : X.N[i]? = some x) (hv : Vis X.env.scope x) (hd : (x == ("__debug__" : Str)) = false := by decide) (hcd : (x == ("__classdict__" : Str)) = false := by decide) : PE X (.Name x pos) (TEm X S W <| eVar i) :=
  PEi (pe_var hN hv hd hcd) fun σ H Q ⟨w, δ, μ, h⟩ => by
    have h3 := h.2.2
    unfold eVar at h3
    split at h3
    · next d hd =>
      obtain ⟨v, hv, rv⟩ := h.1.2 i d hd
      refine ⟨v, hv, ?_⟩
      split at h3
      · exact h3.elim
      · exact h3.elim
      · next n1 n2 =>
        refine h3 w v H (Wd.Le.refl _) h.2.1 ?_
        cases d with
        | lam => exact absurd rfl n1
        | exc c fs => exact absurd rfl (n2 c fs)
        | _ => exact rv
    · exact h3.elim
theorem pe_C' {d : D} {v : V} (h : PE X e (tC v)) (r : ∀ w, RelD X.K X.mg w d v) : PE X e (TEm X S W <| eC d) :=
  PEi h fun σ H Q ⟨w, δ, μ, h⟩ => h.2.2 w v H (Wd.Le.refl _) h.2.1 (r w)
theorem pe_1 {r : V → Hp → VK → Prop} {g : D → Mem → Option D} (h : ∀ t, PE X a t → PE X e (fun σ H Q => t σ H fun x H1 => r x H1 Q)) (hr : ∀ x H Q, rD1 X.K X.mg S.T g x H Q → r x H Q) (ha : PE X a (TEm X S W <| ma)) : PE X e (TEm X S W <| e1 g ma) :=
  PEi (h _ ha) fun σ H Q ⟨w, δ, μ, h⟩ => ⟨w, δ, μ, (At.bind h).mono fun x H1 ⟨w1, μ1, d, le, rd, h1⟩ => by
    obtain ⟨z, e, q⟩ := h1.opt
    exact hr _ _ _ ⟨w1, μ1, d, z, h1.2.1, rd, e, q⟩⟩
theorem pe_2 {r : R2} {g : D → D → Mem → Option D} (h : ∀ t u, PE X a t → PE X b u → PE X e (tOp r t u)) (hr : ∀ x y H Q, rD2 X.K X.mg S.T g x y H Q → r x y H Q) (ha : PE X a (TEm X S W <| ma)) (hb : PE X b (TEm X S W <| mb)) : PE X e (TEm X S W <| e2 g ma mb) :=
  PEi (h _ _ ha hb) fun σ H Q ⟨w, δ, μ, h⟩ => ⟨w, δ, μ, (At.bind h).mono fun x H1 ⟨w1, μ1, d, le, rd, h1⟩ => ⟨w1, δ, μ1, (At.bind h1).mono fun y H2 ⟨w2, μ2, f, le2, re, h2⟩ => by
    obtain ⟨z, e, q⟩ := h2.opt
    exact hr _ _ _ _ ⟨w2, μ2, d, f, z, h2.2.1, rd.mono le2, re, e, q⟩⟩⟩
theorem pe_As {r : List V → Hp → VK → Prop} {g : List D → Mem → Option D} (h : ∀ t, PA X es t → PE X e (tCB r t)) (hr : ∀ x H Q, rDs X.K X.mg S.T g x H Q → r x H Q) (ha : PA X es (TAm X S W <| mr)) : PE X e (TEm X S W <| eAs g mr) :=
  PEi (h _ ha) fun σ H Q ⟨w, δ, μ, h⟩ => ⟨w, δ, μ, (At.bind h).mono fun x H1 ⟨w1, μ1, d, le, rd, h1⟩ => by
    obtain ⟨z, e, q⟩ := h1.opt
    exact hr _ _ _ ⟨w1, μ1, d, z, h1.2.1, rd, e, q⟩⟩
theorem pa_nil' : PA X [] (TAm X S W <| aNil) := PAi pa_nil fun σ H Q ⟨w, δ, μ, h⟩ => h.2.2 w [] H (Wd.Le.refl _) h.2.1 .nil
theorem pa_cons' (ha : PE X a (TEm X S W <| ma)) (hr : PA X es (TAm X S W <| mr)) (hs : starEach (a :: es) X.env = (false, eval a X.env) :: starEach es X.env := by rfl) : PA X (a :: es) (TAm X S W <| aCons ma mr) :=
  PAi (pa_cons ha hr hs) fun σ H Q ⟨w, δ, μ, h⟩ => ⟨w, δ, μ, (At.bind h).mono fun x H1 ⟨w1, μ1, d, le, rd, h1⟩ => ⟨w1, δ, μ1, (At.bind h1).mono fun y H2 ⟨w2, μ2, f, le2, re, h2⟩ =>
    h2.2.2 w2 (x :: y) H2 (Wd.Le.refl _) h2.2.1 (.cons (rd.mono le2) re)⟩⟩
/-- a tuple, a list of items -/
def gTupD : List D → Mem → Option D := fun ds _ => if ds.length ≤ sizeLine then some (.tup ds) else none
def gLstD : List D → Mem → Option D := fun ds _ => if ds.length ≤ sizeLine then some (.lst ds) else none
theorem pe_tup' {x1} (h : PA X es (TAm X S W <| mr)) : PE X (.Tuple es x1 pos) (TEm X S W <| eAs gTupD mr) :=
  pe_As (r := fun xs H1 Q => xs.length ≤ sizeLine ∧ ∀ p, H1 p = none → Q (.ref p) (upd H1 p (.tup xs))) (fun t h => pe_tup h) (fun xs H Q ⟨w, μ, ds, d, r, rs, e, q⟩ => by
    unfold gTupD at e
    split at e
    · next hl =>
      cases e
      exact ⟨by rw [← rs.length]; exact hl, q.tup r rs⟩
    · cases e) h
theorem pe_lst' (h : PA X es (TAm X S W <| mr)) : PE X (.List es pos) (TEm X S W <| eAs gLstD mr) :=
  pe_As (r := fun xs H1 Q => xs.length ≤ sizeLine ∧ ∀ p, H1 p = none → Q (.ref p) (upd H1 p (.lst xs))) (fun t h => pe_lst h) (fun xs H Q ⟨w, μ, ds, d, r, rs, e, q⟩ => by
    unfold gLstD at e
    split at e
    · next hl =>
      cases e
      exact ⟨by rw [← rs.length]; exact hl, q.lst r rs⟩
    · cases e) h
/-- truth -/
theorem truD_rel {K : PySem.W.Frag} {mg : Str → Option Value} {T : List (Addr × Str)} {w : Wd} {μ : Mem} {H : Hp} {d : D} {v : V} {k : Bool} (r : RelM K mg T w μ H) (rd : RelD K mg w d v) (h : truD μ d = some k) : TruV K v H k := by
  cases rd with
  | non => cases h; rfl
  | bl b => cases h; rfl
  | int i => cases h; rfl
  | str y =>
    simp only [truD] at h
    split at h
    · next hl => cases h; exact ⟨hl, rfl⟩
    · cases h
  | tup e rs =>
    cases h
    refine .inr (.inl ⟨_, sqT_mono r.φ e, ?_⟩)
    cases rs <;> rfl
  | lst e rs =>
    cases h
    refine .inl ⟨_, .inl (.inl (r.φ _ _ e)), ?_⟩
    cases rs <;> rfl
  | scr e rs =>
    cases h
    refine .inl ⟨_, scr_H r e, ?_⟩
    cases rs <;> rfl
  | @loc l hl =>
    simp only [truD] at h
    split at h
    · next xs q =>
      cases h
      obtain ⟨vs, h1, h2⟩ := r.lst q
      refine .inl ⟨vs, .inl (.inl h1), ?_⟩
      cases h2 <;> rfl
    · next kvs q =>
      cases h
      have z := (r.ob _ _ q).1
      generalize e : H (w.ρ l) = o at z
      cases z with
      | @dct _ gs hk hv =>
        refine .inr (.inr ⟨gs, e, ?_⟩)
        have : kvs.length = gs.length := by have := congrArg List.length hk; simpa using this
        cases kvs <;> cases gs <;> simp_all
    · cases h
  | _ => cases h
theorem pt_tru' (ha : PE X a (TEm X S W <| ma)) (he : ∀ whole, isTrue a X.env whole = (do let v ← whole; standAt a.pos; holding [v] (truthy v)) := by intro _; rfl) : PT X a (TTm X S W <| tTru ma) :=
  PTi (pt_truth ha he) fun σ H Q ⟨w, δ, μ, h⟩ => ⟨w, δ, μ, (At.bind h).mono fun x H1 ⟨w1, μ1, d, le, rd, h1⟩ => by
    have h3 := h1.2.2
    cases e : truD μ1 d with
    | none => rw [e] at h3; exact h3.elim
    | some k => rw [e] at h3; exact ⟨k, truD_rel h1.2.1 rd e, h3 w1 k H1 (Wd.Le.refl _) h1.2.1 rfl⟩⟩
theorem pt_not' (ha : PT X a (TTm X S W <| mt)) : PT X (.UnaryOp .Not a pos) (TTm X S W <| tNotM mt) :=
  PTi (pt_not ha) fun σ H Q ⟨w, δ, μ, h⟩ => ⟨w, δ, μ, (At.bind h).mono fun x H1 ⟨w1, μ1, d, le, rd, h1⟩ => by
    cases rd
    exact h1.2.2 w1 _ H1 (Wd.Le.refl _) h1.2.1 rfl⟩
theorem pe_ifExp' (hc : PT X c (TTm X S W <| mt)) (ha : PE X a (TEm X S W <| ma)) (hb : PE X b (TEm X S W <| mb)) : PE X (.IfExp c a b pos) (TEm X S W <| eIfM mt ma mb) :=
  PEi (pe_ifExp hc ha hb) fun σ H Q ⟨w, δ, μ, h⟩ => ⟨w, δ, μ, (At.bind h).mono fun x H1 ⟨w1, μ1, d, le, rd, h1⟩ => by
    cases rd
    split
    · next hx => rw [if_pos hx] at h1; exact h1.tM
    · next hx => rw [if_neg hx] at h1; exact h1.tM⟩
theorem pw_and1' (ha : PT X a (TTm X S W mt)) : PW X (.BoolOp .And [a] pos) (TTm X S W mt) := pw_and1 ha
theorem pw_or1' (ha : PT X a (TTm X S W mt)) : PW X (.BoolOp .Or [a] pos) (TTm X S W mt) := pw_or1 ha
theorem PWi {e : Expr} {t t' : TT} (h : PW X e t') (i : ∀ σ H Q, t σ H Q → t' σ H Q) : PW X e t := ⟨fun wh pins s σ H Q I q => h.run wh pins s σ H Q I (i _ _ _ q)⟩
theorem pw_and' (ha : PT X a (TTm X S W mt)) (hb : PW X (.BoolOp .And (b :: es) pos) (TTm X S W mu)) : PW X (.BoolOp .And (a :: b :: es) pos) (TTm X S W <| tAndM mt mu) :=
  PWi (pw_and ha hb) fun σ H Q ⟨w, δ, μ, h⟩ => ⟨w, δ, μ, (At.bind h).mono fun x H1 ⟨w1, μ1, d, le, rd, h1⟩ => by
    cases rd
    split
    · next hx => rw [if_pos hx] at h1; exact h1.tM
    · next hx =>
      rw [if_neg hx] at h1
      exact h1.2.2 w1 _ H1 (Wd.Le.refl _) h1.2.1 rfl⟩
theorem pw_or' (ha : PT X a (TTm X S W mt)) (hb : PW X (.BoolOp .Or (b :: es) pos) (TTm X S W mu)) : PW X (.BoolOp .Or (a :: b :: es) pos) (TTm X S W <| tOrM mt mu) :=
  PWi (pw_or ha hb) fun σ H Q ⟨w, δ, μ, h⟩ => ⟨w, δ, μ, (At.bind h).mono fun x H1 ⟨w1, μ1, d, le, rd, h1⟩ => by
    cases rd
    split
    · next hx =>
      rw [if_pos hx] at h1
      exact h1.2.2 w1 _ H1 (Wd.Le.refl _) h1.2.1 rfl
    · next hx => rw [if_neg hx] at h1; exact h1.tM⟩
theorem pe_not' (ha : PE X a (TEm X S W ma)) : PE X (.UnaryOp .Not a pos) (TEm X S W <| eNotM ma) :=
  PEi (pe_notT ha) fun σ H Q ⟨w, δ, μ, h⟩ => ⟨w, δ, μ, (At.bind h).mono fun x H1 ⟨w1, μ1, d, le, rd, h1⟩ => by
    have h3 := h1.2.2
    cases e : truD μ1 d with
    | none => rw [e] at h3; exact h3.elim
    | some k => rw [e] at h3; exact ⟨k, truD_rel h1.2.1 rd e, h3 w1 _ H1 (Wd.Le.refl _) h1.2.1 (.bl _)⟩⟩
theorem pe_and1' (ha : PE X a (TEm X S W ma)) : PE X (.BoolOp .And [a] pos) (TEm X S W ma) := pe_one ha
theorem pe_or1' (ha : PE X a (TEm X S W ma)) : PE X (.BoolOp .Or [a] pos) (TEm X S W ma) := pe_one ha
theorem pe_and' (ha : PE X a (TEm X S W ma)) (hb : PE X (.BoolOp .And (b :: es) pos) (TEm X S W mb)) : PE X (.BoolOp .And (a :: b :: es) pos) (TEm X S W <| eAndM ma mb) :=
  PEi (pe_andT ha hb) fun σ H Q ⟨w, δ, μ, h⟩ => ⟨w, δ, μ, (At.bind h).mono fun x H1 ⟨w1, μ1, d, le, rd, h1⟩ => by
    have h3 := h1
    cases e : truD μ1 d with
    | none => rw [e] at h3; exact h3.2.2.elim
    | some k =>
      rw [e] at h3
      refine ⟨k, truD_rel h1.2.1 rd e, ?_⟩
      have h4 : At X.K X.mg S W (RelD X.K X.mg) σ Q w1 δ μ1 H1 (if k = true then mb δ μ1 else .ok d μ1) := h3
      split
      · next hx => rw [if_pos hx] at h4; exact h4.tM
      · next hx => rw [if_neg hx] at h4; exact h4.2.2 w1 _ H1 (Wd.Le.refl _) h4.2.1 rd⟩
theorem pe_or' (ha : PE X a (TEm X S W ma)) (hb : PE X (.BoolOp .Or (b :: es) pos) (TEm X S W mb)) : PE X (.BoolOp .Or (a :: b :: es) pos) (TEm X S W <| eOrM ma mb) :=
  PEi (pe_orT ha hb) fun σ H Q ⟨w, δ, μ, h⟩ => ⟨w, δ, μ, (At.bind h).mono fun x H1 ⟨w1, μ1, d, le, rd, h1⟩ => by
    have h3 := h1
    cases e : truD μ1 d with
    | none => rw [e] at h3; exact h3.2.2.elim
    | some k =>
      rw [e] at h3
      refine ⟨k, truD_rel h1.2.1 rd e, ?_⟩
      have h4 : At X.K X.mg S W (RelD X.K X.mg) σ Q w1 δ μ1 H1 (if k = true then .ok d μ1 else mb δ μ1) := h3
      split
      · next hx => rw [if_pos hx] at h4; exact h4.2.2 w1 _ H1 (Wd.Le.refl _) h4.2.1 rd
      · next hx => rw [if_neg hx] at h4; exact h4.tM⟩
end
end Kw

set_option Elab.async false
set_option linter.all false
set_option maxRecDepth 100000
namespace Kw
open PySem PySem.Spec PyProof.Rows L2

/-! ### data as the library's data -/
mutual
def pyW (f : Nat → Option PyData) : D → Option PyData
  | .non => some .none
  | .bl b => some (.bool b)
  | .int i => some (.int i)
  | .str x => some (.str x)
  | .tup xs => match pyWs f xs with
    | some ps => some (.tuple ps)
    | none => none
  | .lst xs => match pyWs f xs with
    | some ps => some (.list ps)
    | none => none
  | .scr xs => match pyWs f xs with
    | some ps => some (.list ps)
    | none => none
  | .loc l => f l
  | _ => none
def pyWs (f : Nat → Option PyData) : List D → Option (List PyData)
  | [] => some []
  | d :: ds => match pyW f d, pyWs f ds with
    | some p, some ps => some (p :: ps)
    | _, _ => none
end
def pyL (μ : Mem) : Nat → Nat → Option PyData
  | 0, _ => none
  | n + 1, l => match μ[l]? with
    | some (.lst xs) => match pyWs (pyL μ n) xs with
      | some ps => some (.list ps)
      | none => none
    | _ => none
def pyOf (μ : Mem) (d : D) : Option PyData := pyW (pyL μ 4) d

section
variable {K : PySem.W.Frag} {mg : Str → Option Value} {T : List (Addr × Str)} {w : Wd} {μ : Mem} {H : Hp}
mutual
theorem pyW_dp (r : RelM K mg T w μ H) {f : Nat → Option PyData} (hf : ∀ l p, f l = some p → Dp K H (.ref (w.ρ l)) p) : ∀ (d : D) (v : V) (p : PyData), RelD K mg w d v → pyW f d = some p → Dp K H v p
  | .non, _, _, rd, h => by cases rd; cases h; exact .non
  | .bl b, _, _, rd, h => by cases rd; cases h; exact .bl b
  | .int i, _, _, rd, h => by cases rd; cases h; exact .int i
  | .str i, _, _, rd, h => by cases rd; cases h; exact .str i
  | .tup xs, _, _, rd, h => by
    cases rd with
    | tup e rs =>
      simp only [pyW] at h
      split at h
      · next ps hp => cases h; exact .tup (sqT_mono r.φ e) (pyWs_dp r hf xs _ _ rs hp)
      · cases h
  | .lst xs, _, _, rd, h => by
    cases rd with
    | lst e rs =>
      simp only [pyW] at h
      split at h
      · next ps hp => cases h; exact .lst (.inl (.inl (r.φ _ _ e))) (pyWs_dp r hf xs _ _ rs hp)
      · cases h
  | .scr xs, _, _, rd, h => by
    cases rd with
    | scr e rs =>
      simp only [pyW] at h
      split at h
      · next ps hp => cases h; exact .lst (scr_H r e) (pyWs_dp r hf xs _ _ rs hp)
      · cases h
  | .loc l, _, _, rd, h => by
    cases rd with
    | loc hl => exact hf l _ h
  | .dct _, _, _, _, h => by cases h
  | .brd _, _, _, _, h => by cases h
  | .glb _, _, _, _, h => by cases h
  | .ty _, _, _, _, h => by cases h
  | .lam, _, _, _, h => by cases h
  | .exc _ _, _, _, _, h => by cases h
theorem pyWs_dp (r : RelM K mg T w μ H) {f : Nat → Option PyData} (hf : ∀ l p, f l = some p → Dp K H (.ref (w.ρ l)) p) : ∀ (ds : List D) (vs : List V) (ps : List PyData), RelDs K mg w ds vs → pyWs f ds = some ps → DpAll K H vs ps
  | [], _, _, rd, h => by cases rd; cases h; exact .nil
  | d :: ds, _, _, rd, h => by
    cases rd with
    | cons r1 r2 =>
      simp only [pyWs] at h
      split at h
      · next p ps hp hps => cases h; exact .cons (pyW_dp r hf d _ _ r1 hp) (pyWs_dp r hf ds _ _ r2 hps)
      · cases h
end
theorem pyL_dp (r : RelM K mg T w μ H) : ∀ (n l : Nat) (p : PyData), pyL μ n l = some p → Dp K H (.ref (w.ρ l)) p
  | 0, l, p, h => by cases h
  | n + 1, l, p, h => by
    simp only [pyL] at h
    split at h
    · next xs q =>
      obtain ⟨vs, h1, h2⟩ := r.lst q
      split at h
      · next ps hp => cases h; exact .lst (.inl (.inl h1)) (pyWs_dp r (pyL_dp r n) _ _ _ h2 hp)
      · cases h
    · cases h
theorem pyOf_dp (r : RelM K mg T w μ H) {d : D} {v : V} {p : PyData} (rd : RelD K mg w d v) (h : pyOf μ d = some p) : Dp K H v p := pyW_dp r (fun l p => pyL_dp r 4 l p) d v p rd h
end

/-! ### operators -/
def gAdd : D → D → Mem → Option D
  | .int i, .int j, _ => some (.int (i + j))
  | .str a, .str b, _ => if a.length + b.length ≤ sizeLine then some (.str (a ++ b)) else none
  | .tup a, .tup b, _ => if a.length + b.length ≤ sizeLine then some (.tup (a ++ b)) else none
  | x, y, μ => match lstX μ x, lstX μ y with
    | some a, some b => if a.length + b.length ≤ sizeLine then some (.lst (a ++ b)) else none
    | _, _ => none
def gSub : D → D → Mem → Option D
  | .int i, .int j, _ => some (.int (i - j))
  | _, _, _ => none
def gMul : D → D → Mem → Option D
  | .int i, .int j, _ => if ((-(18446744073709551616) < i ∧ i < 18446744073709551616) ∨ (-(18446744073709551616) < j ∧ j < 18446744073709551616)) ∨ i.natAbs.log2 + j.natAbs.log2 < 1000000 then some (.int (i * j)) else none
  | _, _, _ => none
def gMod : D → D → Mem → Option D
  | .int i, .int j, _ => if 0 < j then some (.int (i % j)) else none
  | _, _, _ => none
def gFdv : D → D → Mem → Option D
  | .int i, .int j, _ => if 0 < j ∧ (j < 1073741824 ∨ j.natAbs.log2 < 9000) then some (.int (i / j)) else none
  | _, _, _ => none
def gPow : D → D → Mem → Option D
  | .int i, .int j, _ => if 0 ≤ j ∧ j ≤ 1000000 ∧ i.natAbs < 18446744073709551616 then some (.int (i ^ j.toNat)) else none
  | _, _, _ => none
def gLt : D → D → Mem → Option D
  | .int i, .int j, _ => some (.bl (decide (i < j)))
  | _, _, _ => none
def gLe : D → D → Mem → Option D
  | .int i, .int j, _ => some (.bl (decide (i ≤ j)))
  | _, _, _ => none
def gGt : D → D → Mem → Option D
  | .int i, .int j, _ => some (.bl (decide (j < i)))
  | _, _, _ => none
def gGe : D → D → Mem → Option D
  | .int i, .int j, _ => some (.bl (decide (j ≤ i)))
  | _, _, _ => none
def eqD (x y : D) (μ : Mem) : Option Bool := match pyOf μ x, pyOf μ y with
  | some p, some q => if (SeqAt.shaped p && SeqAt.shaped q) = true then some (PyData.eqv p q) else none
  | _, _ => none
def gEq (x y : D) (μ : Mem) : Option D := match eqD x y μ with
  | some b => some (.bl b)
  | none => none
def gNe (x y : D) (μ : Mem) : Option D := match eqD x y μ with
  | some b => some (.bl !b)
  | none => none
def isD : D → D → Option Bool
  | .non, .non => some true
  | _, .non => some false
  | .bl a, .bl b => some (decide (a = b))
  | _, _ => none
def gIs (x y : D) (_ : Mem) : Option D := match isD x y with
  | some b => some (.bl b)
  | none => none
def gIsNot (x y : D) (_ : Mem) : Option D := match isD x y with
  | some b => some (.bl !b)
  | none => none
section
variable {K : PySem.W.Frag} {mg : Str → Option Value} {T : List (Addr × Str)} {x y : V} {H : Hp} {Q : VK}
theorem add_r (h : rD2 K mg T gAdd x y H Q) : rI0 (fun i j => .int (i + j)) x y H Q ∨ (∃ i j, x = .str i ∧ y = .str j ∧ i.length + j.length ≤ sizeLine ∧ Q (.str (i ++ j)) H) ∨ rCatA K x y H Q ∨ rCat x y H Q := by
  obtain ⟨w, μ, dx, dy, d, r, rx, ry, e, q⟩ := h
  unfold gAdd at e
  split at e
  · cases rx; cases ry; cases e
    exact .inl ⟨_, _, rfl, rfl, q.same r (.int _)⟩
  · cases rx; cases ry
    split at e
    · next hl => cases e; exact .inr (.inl ⟨_, _, rfl, rfl, hl, q.same r (.str _)⟩)
    · cases e
  · next as bs =>
    split at e
    · next hl =>
      cases e
      obtain ⟨a, vs, rfl, h1, h2⟩ := tupOf_rel r rx rfl
      obtain ⟨b, us, rfl, h3, h4⟩ := tupOf_rel r ry rfl
      refine .inr (.inr (.inl ⟨a, b, vs, us, rfl, rfl, h1, h3, by rw [← h2.length, ← h4.length]; exact hl, fun e => ?_, fun _ e => ?_, fun _ _ => ?_⟩))
      · subst e
        cases h2
        exact q.same r ry
      · subst e
        cases h4
        rw [List.append_nil] at q
        exact q.same r rx
      · exact q.tup r (h2.append h4)
    · cases e
  · split at e
    · next as bs ea eb =>
      split at e
      · next hl =>
        cases e
        obtain ⟨a, vs, rfl, h1, h2⟩ := lstX_rel r rx ea
        obtain ⟨b, us, rfl, h3, h4⟩ := lstX_rel r ry eb
        exact .inr (.inr (.inr ⟨a, b, vs, us, rfl, rfl, h1, h3, by rw [← h2.length, ← h4.length]; exact hl, q.lst r (h2.append h4)⟩))
      · cases e
    · cases e
theorem sub_r (h : rD2 K mg T gSub x y H Q) : rI0 (fun i j => .int (i - j)) x y H Q := by
  obtain ⟨w, μ, dx, dy, d, r, rx, ry, e, q⟩ := h
  unfold gSub at e
  split at e
  · cases rx; cases ry; cases e
    exact ⟨_, _, rfl, rfl, q.same r (.int _)⟩
  · cases e
theorem mul_r (h : rD2 K mg T gMul x y H Q) : rI CMul (fun i j => .int (i * j)) x y H Q ∨ rI CMulW (fun i j => .int (i * j)) x y H Q := by
  obtain ⟨w, μ, dx, dy, d, r, rx, ry, e, q⟩ := h
  unfold gMul at e
  split at e
  · cases rx; cases ry
    split at e
    · next hc =>
      cases e
      rcases hc with hc | hc
      · exact .inl ⟨_, _, rfl, rfl, hc, q.same r (.int _)⟩
      · exact .inr ⟨_, _, rfl, rfl, hc, q.same r (.int _)⟩
    · cases e
  · cases e
theorem mod_r (h : rD2 K mg T gMod x y H Q) : rI (fun _ j => 0 < j) (fun i j => .int (i % j)) x y H Q := by
  obtain ⟨w, μ, dx, dy, d, r, rx, ry, e, q⟩ := h
  unfold gMod at e
  split at e
  · cases rx; cases ry
    split at e
    · next hc => cases e; exact ⟨_, _, rfl, rfl, hc, q.same r (.int _)⟩
    · cases e
  · cases e
theorem fdv_r (h : rD2 K mg T gFdv x y H Q) : rI CDiv (fun i j => .int (i / j)) x y H Q ∨ rI CDivW (fun i j => .int (i / j)) x y H Q := by
  obtain ⟨w, μ, dx, dy, d, r, rx, ry, e, q⟩ := h
  unfold gFdv at e
  split at e
  · cases rx; cases ry
    split at e
    · next hc =>
      cases e
      obtain ⟨h0, hc | hc⟩ := hc
      · exact .inl ⟨_, _, rfl, rfl, ⟨h0, hc⟩, q.same r (.int _)⟩
      · exact .inr ⟨_, _, rfl, rfl, ⟨h0, hc⟩, q.same r (.int _)⟩
    · cases e
  · cases e
theorem pow_r (h : rD2 K mg T gPow x y H Q) : rI CPow (fun i j => .int (i ^ j.toNat)) x y H Q := by
  obtain ⟨w, μ, dx, dy, d, r, rx, ry, e, q⟩ := h
  unfold gPow at e
  split at e
  · cases rx; cases ry
    split at e
    · next hc => cases e; exact ⟨_, _, rfl, rfl, ⟨hc.1, hc.2.1, by have := hc.2.2; omega⟩, q.same r (.int _)⟩
    · cases e
  · cases e
theorem lt_r (h : rD2 K mg T gLt x y H Q) : rI0 (fun i j => .bl (decide (i < j))) x y H Q := by
  obtain ⟨w, μ, dx, dy, d, r, rx, ry, e, q⟩ := h
  unfold gLt at e
  split at e
  · cases rx; cases ry; cases e
    exact ⟨_, _, rfl, rfl, q.same r (.bl _)⟩
  · cases e
theorem le_r (h : rD2 K mg T gLe x y H Q) : rI0 (fun i j => .bl (decide (i ≤ j))) x y H Q := by
  obtain ⟨w, μ, dx, dy, d, r, rx, ry, e, q⟩ := h
  unfold gLe at e
  split at e
  · cases rx; cases ry; cases e
    exact ⟨_, _, rfl, rfl, q.same r (.bl _)⟩
  · cases e
theorem gt_r (h : rD2 K mg T gGt x y H Q) : rI0 (fun i j => .bl (decide (j < i))) x y H Q := by
  obtain ⟨w, μ, dx, dy, d, r, rx, ry, e, q⟩ := h
  unfold gGt at e
  split at e
  · cases rx; cases ry; cases e
    exact ⟨_, _, rfl, rfl, q.same r (.bl _)⟩
  · cases e
theorem ge_r (h : rD2 K mg T gGe x y H Q) : rI0 (fun i j => .bl (decide (j ≤ i))) x y H Q := by
  obtain ⟨w, μ, dx, dy, d, r, rx, ry, e, q⟩ := h
  unfold gGe at e
  split at e
  · cases rx; cases ry; cases e
    exact ⟨_, _, rfl, rfl, q.same r (.bl _)⟩
  · cases e
theorem eqD_r {w : Wd} {μ : Mem} {dx dy : D} {b : Bool} (r : RelM K mg T w μ H) (rx : RelD K mg w dx x) (ry : RelD K mg w dy y) (e : eqD dx dy μ = some b) : ∃ p q, Dp K H x p ∧ Dp K H y q ∧ SeqAt.shaped p = true ∧ SeqAt.shaped q = true ∧ b = PyData.eqv p q := by
  unfold eqD at e
  split at e
  · next p q hp hq =>
    split at e
    · next hs =>
      cases e
      rw [Bool.and_eq_true] at hs
      exact ⟨p, q, pyOf_dp r rx hp, pyOf_dp r ry hq, hs.1, hs.2, rfl⟩
    · cases e
  · cases e
theorem eq_r (h : rD2 K mg T gEq x y H Q) : rEqD K x y H Q := by
  obtain ⟨w, μ, dx, dy, d, r, rx, ry, e, q⟩ := h
  unfold gEq at e
  split at e
  · next b hb =>
    cases e
    obtain ⟨p, p', h1, h2, h3, h4, rfl⟩ := eqD_r r rx ry hb
    exact ⟨p, p', h1, h2, h3, h4, q.same r (.bl _)⟩
  · cases e
theorem ne_r (h : rD2 K mg T gNe x y H Q) : rNeD K x y H Q := by
  obtain ⟨w, μ, dx, dy, d, r, rx, ry, e, q⟩ := h
  unfold gNe at e
  split at e
  · next b hb =>
    cases e
    obtain ⟨p, p', h1, h2, h3, h4, rfl⟩ := eqD_r r rx ry hb
    exact ⟨p, p', h1, h2, h3, h4, q.same r (.bl _)⟩
  · cases e
theorem isD_r {w : Wd} {dx dy : D} {b : Bool} (rx : RelD K mg w dx x) (ry : RelD K mg w dy y) (e : isD dx dy = some b) : (y = .non ∧ b = decide (x = .non)) ∨ ∃ k j : Bool, x = .bl k ∧ y = .bl j ∧ b = decide (k = j) := by
  unfold isD at e
  split at e
  · cases rx; cases ry; cases e; exact .inl ⟨rfl, by simp⟩
  · next hn =>
    cases ry; cases e
    refine .inl ⟨rfl, ?_⟩
    cases rx <;> simp at *
  · cases rx; cases ry; cases e
    exact .inr ⟨_, _, rfl, rfl, rfl⟩
  · cases e
theorem is_r (h : rD2 K mg T gIs x y H Q) : (y = .non ∧ Q (.bl (decide (x = .non))) H) ∨ rIsB x y H Q := by
  obtain ⟨w, μ, dx, dy, d, r, rx, ry, e, q⟩ := h
  unfold gIs at e
  split at e
  · next b hb =>
    cases e
    rcases isD_r rx ry hb with ⟨h1, rfl⟩ | ⟨k, j, h1, h2, rfl⟩
    · exact .inl ⟨h1, q.same r (.bl _)⟩
    · exact .inr ⟨k, j, h1, h2, q.same r (.bl _)⟩
  · cases e
theorem isNot_r (h : rD2 K mg T gIsNot x y H Q) : (y = .non ∧ Q (.bl (!decide (x = .non))) H) ∨ rNotB x y H Q := by
  obtain ⟨w, μ, dx, dy, d, r, rx, ry, e, q⟩ := h
  unfold gIsNot at e
  split at e
  · next b hb =>
    cases e
    rcases isD_r rx ry hb with ⟨h1, rfl⟩ | ⟨k, j, h1, h2, rfl⟩
    · exact .inl ⟨h1, q.same r (.bl _)⟩
    · exact .inr ⟨k, j, h1, h2, q.same r (.bl _)⟩
  · cases e
end
section
variable {X : Cx} {S : SI} {W : WX} {a b : Expr} {ma mb : EM} {pos : Pos}
theorem pe_add' (ha : PE X a (TEm X S W ma)) (hb : PE X b (TEm X S W mb)) : PE X (.BinOp a .Add b pos) (TEm X S W <| e2 gAdd ma mb) := pe_2 (fun t u => pe_op (op_add.or (op_add_str.or (op_catA.or op_cat)))) (fun _ _ _ _ => add_r) ha hb
theorem pe_sub' (ha : PE X a (TEm X S W ma)) (hb : PE X b (TEm X S W mb)) : PE X (.BinOp a .Sub b pos) (TEm X S W <| e2 gSub ma mb) := pe_2 (fun t u => pe_op op_sub) (fun _ _ _ _ => sub_r) ha hb
theorem pe_mul' (ha : PE X a (TEm X S W ma)) (hb : PE X b (TEm X S W mb)) : PE X (.BinOp a .Mult b pos) (TEm X S W <| e2 gMul ma mb) := pe_2 (fun t u => pe_op (op_mul.or op_mulW)) (fun _ _ _ _ => mul_r) ha hb
theorem pe_mod' (ha : PE X a (TEm X S W ma)) (hb : PE X b (TEm X S W mb)) : PE X (.BinOp a .Mod b pos) (TEm X S W <| e2 gMod ma mb) := pe_2 (fun t u => pe_op op_mod) (fun _ _ _ _ => mod_r) ha hb
theorem pe_fdv' (ha : PE X a (TEm X S W ma)) (hb : PE X b (TEm X S W mb)) : PE X (.BinOp a .FloorDiv b pos) (TEm X S W <| e2 gFdv ma mb) := pe_2 (fun t u => pe_op (op_fdiv.or op_fdivW)) (fun _ _ _ _ => fdv_r) ha hb
theorem pe_pow' (ha : PE X a (TEm X S W ma)) (hb : PE X b (TEm X S W mb)) : PE X (.BinOp a .Pow b pos) (TEm X S W <| e2 gPow ma mb) := pe_2 (fun t u => pe_op op_pow) (fun _ _ _ _ => pow_r) ha hb
theorem pe_lt' (ha : PE X a (TEm X S W ma)) (hb : PE X b (TEm X S W mb)) : PE X (.Compare a [.Lt] [b] pos) (TEm X S W <| e2 gLt ma mb) := pe_2 (fun t u ha hb => pe_cmpR op_lt ha hb (nomark b)) (fun _ _ _ _ => lt_r) ha hb
theorem pe_le' (ha : PE X a (TEm X S W ma)) (hb : PE X b (TEm X S W mb)) : PE X (.Compare a [.LtE] [b] pos) (TEm X S W <| e2 gLe ma mb) := pe_2 (fun t u ha hb => pe_cmpR op_le ha hb (nomark b)) (fun _ _ _ _ => le_r) ha hb
theorem pe_gt' (ha : PE X a (TEm X S W ma)) (hb : PE X b (TEm X S W mb)) : PE X (.Compare a [.Gt] [b] pos) (TEm X S W <| e2 gGt ma mb) := pe_2 (fun t u ha hb => pe_cmpR op_gt ha hb (nomark b)) (fun _ _ _ _ => gt_r) ha hb
theorem pe_ge' (ha : PE X a (TEm X S W ma)) (hb : PE X b (TEm X S W mb)) : PE X (.Compare a [.GtE] [b] pos) (TEm X S W <| e2 gGe ma mb) := pe_2 (fun t u ha hb => pe_cmpR op_ge ha hb (nomark b)) (fun _ _ _ _ => ge_r) ha hb
theorem pe_eq' (hu : X.A.units + 64 < cLine) (ha : PE X a (TEm X S W ma)) (hb : PE X b (TEm X S W mb)) : PE X (.Compare a [.Eq] [b] pos) (TEm X S W <| e2 gEq ma mb) := pe_2 (fun t u ha hb => pe_cmpR (op_eqD hu) ha hb (nomark b)) (fun _ _ _ _ => eq_r) ha hb
theorem pe_ne' (hu : X.A.units + 64 < cLine) (ha : PE X a (TEm X S W ma)) (hb : PE X b (TEm X S W mb)) : PE X (.Compare a [.NotEq] [b] pos) (TEm X S W <| e2 gNe ma mb) := pe_2 (fun t u ha hb => pe_cmpR (op_neD hu) ha hb (nomark b)) (fun _ _ _ _ => ne_r) ha hb
theorem pe_is' (ha : PE X a (TEm X S W ma)) (hb : PE X b (TEm X S W mb)) : PE X (.Compare a [.Is] [b] pos) (TEm X S W <| e2 gIs ma mb) := pe_2 (fun t u ha hb => pe_cmpR (op_isN.or op_isBl) ha hb (nomark b)) (fun _ _ _ _ => is_r) ha hb
theorem pe_isNot' (ha : PE X a (TEm X S W ma)) (hb : PE X b (TEm X S W mb)) : PE X (.Compare a [.IsNot] [b] pos) (TEm X S W <| e2 gIsNot ma mb) := pe_2 (fun t u ha hb => pe_cmpR (op_notN.or op_notBl) ha hb (nomark b)) (fun _ _ _ _ => isNot_r) ha hb
end
end Kw

set_option Elab.async false
set_option linter.all false
set_option maxRecDepth 100000
namespace Kw
open PySem PySem.Spec PyProof.Rows L2

/-! ### two readings of one piece -/
theorem PEor {X : Cx} {e : Expr} {t t' : TE} (h : PE X e t) (h' : PE X e t') : PE X e (fun σ H Q => t σ H Q ∨ t' σ H Q) := ⟨fun pins s σ H Q I q => q.elim (h.run pins s σ H Q I) (h'.run pins s σ H Q I)⟩
theorem PTor {X : Cx} {e : Expr} {t t' : TT} (h : PT X e t) (h' : PT X e t') : PT X e (fun σ H Q => t σ H Q ∨ t' σ H Q) := ⟨fun pins s σ H Q I q => q.elim (h.run pins s σ H Q I) (h'.run pins s σ H Q I)⟩
def gOr2 (g g' : D → D → Mem → Option D) : D → D → Mem → Option D := fun x y μ => match g x y μ with
  | some d => some d
  | none => g' x y μ
theorem e2_or (g g' : D → D → Mem → Option D) (ma mb : EM) (δ : Sv) (μ : Mem) : e2 (gOr2 g g') ma mb δ μ = e2 g ma mb δ μ ∨ e2 (gOr2 g g') ma mb δ μ = e2 g' ma mb δ μ := by
  unfold e2
  cases ma δ μ with
  | stuck => exact .inl rfl
  | exc x μ' => exact .inl rfl
  | ok x μ1 =>
    show ((mb δ μ1).bind _ = (mb δ μ1).bind _) ∨ ((mb δ μ1).bind _ = (mb δ μ1).bind _)
    cases mb δ μ1 with
    | stuck => exact .inl rfl
    | exc x μ' => exact .inl rfl
    | ok y μ2 =>
      show (oOf (gOr2 g g' x y μ2) μ2 = oOf (g x y μ2) μ2) ∨ (oOf (gOr2 g g' x y μ2) μ2 = oOf (g' x y μ2) μ2)
      unfold gOr2
      cases g x y μ2 with
      | none => exact .inr rfl
      | some d => exact .inl rfl
theorem pe_or2 {X : Cx} {S : SI} {W : WX} {e : Expr} {g g' : D → D → Mem → Option D} {ma mb : EM} (h : PE X e (TEm X S W <| e2 g ma mb)) (h' : PE X e (TEm X S W <| e2 g' ma mb)) : PE X e (TEm X S W <| e2 (gOr2 g g') ma mb) :=
  PEi (PEor h h') fun σ H Q ⟨w, δ, μ, q⟩ => (e2_or g g' ma mb δ μ).elim (fun e => .inl ⟨w, δ, μ, e ▸ q⟩) fun e => .inr ⟨w, δ, μ, e ▸ q⟩
/-- a test by an expression that is a bool -/
def tBl (m : EM) : TM := fun δ μ => (m δ μ).bind fun d μ1 => match d with
  | .bl b => .ok b μ1
  | _ => .stuck
theorem pt_cmp2 {X : Cx} {S : SI} {W : WX} {a b : Expr} {op : CmpOp} {pos : Pos} {ma mb : EM} {r : R2} {g : D → D → Mem → Option D} (ho : OpR X (compareOp op) r) (hm : behindInMarks op b = false) (hr : ∀ x y H Q, rD2 X.K X.mg S.T g x y H Q → r x y H Q) (ha : PE X a (TEm X S W ma)) (hb : PE X b (TEm X S W mb)) :
    PT X (.Compare a [op] [b] pos) (TTm X S W <| tBl (e2 g ma mb)) :=
  PTi (pt_cmpR ho ha hb hm) fun σ H Q ⟨w, δ, μ, h⟩ => ⟨w, δ, μ, (At.bind (R := RelD X.K X.mg) (R' := fun _ (a b : Bool) => a = b) (Q := Q) (o := ma δ μ) (f := fun x μ1 => ((mb δ μ1).bind fun y μ2 => oOf (g x y μ2) μ2).bind fun d μ1 => match d with
      | .bl b => .ok b μ1
      | _ => .stuck) (by unfold tBl e2 at h; cases q : ma δ μ <;> rw [q] at h <;> exact h)).mono fun x H1 ⟨w1, μ1, d, le, rd, h1⟩ => ⟨w1, δ, μ1, (At.bind (R := RelD X.K X.mg) (R' := fun _ (a b : Bool) => a = b) (Q := Q) (o := mb δ μ1) (f := fun y μ2 => (oOf (g d y μ2) μ2).bind fun d μ1 => match d with
      | .bl b => .ok b μ1
      | _ => .stuck) (by cases q : mb δ μ1 <;> rw [q] at h1 <;> exact h1)).mono fun y H2 ⟨w2, μ2, f, le2, re, h2⟩ => by
    cases q : g d f μ2 with
    | none => rw [q] at h2; exact h2.2.2.elim
    | some z =>
      rw [q] at h2
      refine hr _ _ _ _ ⟨w2, μ2, d, f, z, h2.2.1, rd.mono le2, re, q, fun w3 v H3 le3 r3 rz => ?_⟩
      cases z with
      | bl k =>
        cases rz
        exact ⟨k, rfl, h2.2.2 w3 k H3 le3 r3 rfl⟩
      | _ => exact h2.2.2.elim⟩⟩
section
variable {X : Cx} {S : SI} {W : WX} {a b : Expr} {ma mb : EM} {pos : Pos}
theorem pt_lt' (ha : PE X a (TEm X S W ma)) (hb : PE X b (TEm X S W mb)) : PT X (.Compare a [.Lt] [b] pos) (TTm X S W <| tBl (e2 gLt ma mb)) := pt_cmp2 op_lt (nomark b) (fun _ _ _ _ => lt_r) ha hb
theorem pt_le' (ha : PE X a (TEm X S W ma)) (hb : PE X b (TEm X S W mb)) : PT X (.Compare a [.LtE] [b] pos) (TTm X S W <| tBl (e2 gLe ma mb)) := pt_cmp2 op_le (nomark b) (fun _ _ _ _ => le_r) ha hb
theorem pt_gt' (ha : PE X a (TEm X S W ma)) (hb : PE X b (TEm X S W mb)) : PT X (.Compare a [.Gt] [b] pos) (TTm X S W <| tBl (e2 gGt ma mb)) := pt_cmp2 op_gt (nomark b) (fun _ _ _ _ => gt_r) ha hb
theorem pt_ge' (ha : PE X a (TEm X S W ma)) (hb : PE X b (TEm X S W mb)) : PT X (.Compare a [.GtE] [b] pos) (TTm X S W <| tBl (e2 gGe ma mb)) := pt_cmp2 op_ge (nomark b) (fun _ _ _ _ => ge_r) ha hb
theorem pt_eq' (hu : X.A.units + 64 < cLine) (ha : PE X a (TEm X S W ma)) (hb : PE X b (TEm X S W mb)) : PT X (.Compare a [.Eq] [b] pos) (TTm X S W <| tBl (e2 gEq ma mb)) := pt_cmp2 (op_eqD hu) (nomark b) (fun _ _ _ _ => eq_r) ha hb
theorem pt_ne' (hu : X.A.units + 64 < cLine) (ha : PE X a (TEm X S W ma)) (hb : PE X b (TEm X S W mb)) : PT X (.Compare a [.NotEq] [b] pos) (TTm X S W <| tBl (e2 gNe ma mb)) := pt_cmp2 (op_neD hu) (nomark b) (fun _ _ _ _ => ne_r) ha hb
theorem pt_is' (ha : PE X a (TEm X S W ma)) (hb : PE X b (TEm X S W mb)) : PT X (.Compare a [.Is] [b] pos) (TTm X S W <| tBl (e2 gIs ma mb)) := pt_cmp2 (op_isN.or op_isBl) (nomark b) (fun _ _ _ _ => is_r) ha hb
theorem pt_isNot' (ha : PE X a (TEm X S W ma)) (hb : PE X b (TEm X S W mb)) : PT X (.Compare a [.IsNot] [b] pos) (TTm X S W <| tBl (e2 gIsNot ma mb)) := pt_cmp2 (op_notN.or op_notBl) (nomark b) (fun _ _ _ _ => isNot_r) ha hb
end

/-! ### in -/
def flatD : D → Bool
  | .non => true
  | .bl _ => true
  | .int _ => true
  | .str _ => true
  | _ => false
def eqF : D → D → Bool
  | .non, .non => true
  | .bl a, .bl b => a == b
  | .bl a, .int b => (if a then 1 else 0) == b
  | .int a, .bl b => a == (if b then 1 else 0)
  | .int a, .int b => a == b
  | .str a, .str b => a == b
  | _, _ => false
/-- x in y: flat items; or a list of shaped things -/
def inF (x y : D) (μ : Mem) : Option Bool := match seqOf μ y with
  | some ys => if (flatD x && ys.all flatD) = true then some (ys.any fun z => eqF z x) else none
  | none => none
def inDp (x y : D) (μ : Mem) : Option Bool := match pyOf μ x, pyOf μ y with
  | some p, some (.list qs) => if (SeqAt.shaped p && SeqAt.shaped (.list qs)) = true then some (qs.any fun z => PyData.eqv z p) else none
  | _, _ => none
def gInF (x y : D) (μ : Mem) : Option D := (inF x y μ).map .bl
def gNinF (x y : D) (μ : Mem) : Option D := (inF x y μ).map fun b => .bl !b
def gInDp (x y : D) (μ : Mem) : Option D := (inDp x y μ).map .bl
def gNinDp (x y : D) (μ : Mem) : Option D := (inDp x y μ).map fun b => .bl !b
section
variable {K : PySem.W.Frag} {mg : Str → Option Value} {T : List (Addr × Str)} {x y : V} {H : Hp} {Q : VK}
theorem flatD_rel {w : Wd} {d : D} {v : V} (r : RelD K mg w d v) (h : flatD d = true) : flatV v = true := by
  cases r <;> first | rfl | cases h
theorem flatDs_rel {w : Wd} : ∀ {ds : List D} {vs : List V}, RelDs K mg w ds vs → ds.all flatD = true → vs.all flatV = true
  | _, _, .nil, _ => rfl
  | _, _, .cons r t, h => by
    rw [List.all_cons, Bool.and_eq_true] at h
    rw [List.all_cons, Bool.and_eq_true]
    exact ⟨flatD_rel r h.1, flatDs_rel t h.2⟩
theorem eqF_rel {w : Wd} {d e : D} {v u : V} (r : RelD K mg w d v) (r' : RelD K mg w e u) (h : flatD d = true) (h' : flatD e = true) : eqV v u = eqF d e := by
  cases r <;> cases r' <;> first | rfl | cases h | cases h'
theorem eqFs_rel {w : Wd} {e : D} {u : V} (r' : RelD K mg w e u) (h' : flatD e = true) : ∀ {ds : List D} {vs : List V}, RelDs K mg w ds vs → ds.all flatD = true → inV u vs = ds.any fun z => eqF z e
  | _, _, .nil, _ => rfl
  | _, _, .cons r t, h => by
    rw [List.all_cons, Bool.and_eq_true] at h
    have := eqFs_rel r' h' t h.2
    unfold inV at this ⊢
    rw [List.any_cons, List.any_cons, this, eqF_rel r r' h.1 h']
theorem inF_r {w : Wd} {μ : Mem} {dx dy : D} {b : Bool} (r : RelM K mg T w μ H) (rx : RelD K mg w dx x) (ry : RelD K mg w dy y) (e : inF dx dy μ = some b) : ∃ p xs, y = .ref p ∧ (SqL K H p xs ∨ SqT K H p xs) ∧ flatV x = true ∧ xs.all flatV = true ∧ b = inV x xs := by
  unfold inF at e
  split at e
  · next ys hy =>
    split at e
    · next hf =>
      cases e
      rw [Bool.and_eq_true] at hf
      obtain ⟨a, vs, h1, h2, h3⟩ := seqOf_rel r ry hy
      exact ⟨a, vs, h1, h2, flatD_rel rx hf.1, flatDs_rel h3 hf.2, (eqFs_rel rx hf.1 h3 hf.2).symm⟩
    · cases e
  · cases e
theorem inF_ok (h : rD2 K mg T gInF x y H Q) : rIn K false x y H Q := by
  obtain ⟨w, μ, dx, dy, d, r, rx, ry, e, q⟩ := h
  obtain ⟨b, hb, rfl⟩ := Option.map_eq_some_iff.mp e
  obtain ⟨p, xs, h1, h2, h3, h4, rfl⟩ := inF_r r rx ry hb
  exact ⟨p, xs, h1, h2, h3, h4, q.same r (.bl _)⟩
theorem ninF_ok (h : rD2 K mg T gNinF x y H Q) : rIn K true x y H Q := by
  obtain ⟨w, μ, dx, dy, d, r, rx, ry, e, q⟩ := h
  obtain ⟨b, hb, rfl⟩ := Option.map_eq_some_iff.mp e
  obtain ⟨p, xs, h1, h2, h3, h4, rfl⟩ := inF_r r rx ry hb
  exact ⟨p, xs, h1, h2, h3, h4, q.same r (.bl _)⟩
theorem inDp_r {w : Wd} {μ : Mem} {dx dy : D} {b : Bool} (r : RelM K mg T w μ H) (rx : RelD K mg w dx x) (ry : RelD K mg w dy y) (e : inDp dx dy μ = some b) : ∃ d ds, Dp K H x d ∧ Dp K H y (.list ds) ∧ SeqAt.shaped d = true ∧ SeqAt.shaped (.list ds) = true ∧ b = ds.any fun z => PyData.eqv z d := by
  unfold inDp at e
  split at e
  · next p qs hp hq =>
    split at e
    · next hs =>
      cases e
      rw [Bool.and_eq_true] at hs
      exact ⟨p, qs, pyOf_dp r rx hp, pyOf_dp r ry hq, hs.1, hs.2, rfl⟩
    · cases e
  · cases e
theorem inDp_ok (h : rD2 K mg T gInDp x y H Q) : rInD K x y H Q := by
  obtain ⟨w, μ, dx, dy, d, r, rx, ry, e, q⟩ := h
  obtain ⟨b, hb, rfl⟩ := Option.map_eq_some_iff.mp e
  obtain ⟨p, xs, h1, h2, h3, h4, rfl⟩ := inDp_r r rx ry hb
  exact ⟨p, xs, h1, h2, h3, h4, q.same r (.bl _)⟩
theorem ninDp_ok (h : rD2 K mg T gNinDp x y H Q) : rNotInD K x y H Q := by
  obtain ⟨w, μ, dx, dy, d, r, rx, ry, e, q⟩ := h
  obtain ⟨b, hb, rfl⟩ := Option.map_eq_some_iff.mp e
  obtain ⟨p, xs, h1, h2, h3, h4, rfl⟩ := inDp_r r rx ry hb
  exact ⟨p, xs, h1, h2, h3, h4, q.same r (.bl _)⟩
theorem rD2_or {g g' : D → D → Mem → Option D} (h : rD2 K mg T (gOr2 g g') x y H Q) : rD2 K mg T g x y H Q ∨ rD2 K mg T g' x y H Q := by
  obtain ⟨w, μ, dx, dy, d, r, rx, ry, e, q⟩ := h
  unfold gOr2 at e
  split at e
  · next z hz => cases e; exact .inl ⟨w, μ, dx, dy, _, r, rx, ry, hz, q⟩
  · exact .inr ⟨w, μ, dx, dy, _, r, rx, ry, e, q⟩
end
def gIn : D → D → Mem → Option D := gOr2 gInF gInDp
def gNin : D → D → Mem → Option D := gOr2 gNinF gNinDp
section
variable {X : Cx} {S : SI} {W : WX} {a b : Expr} {ma mb : EM} {pos : Pos}
theorem pe_in' (hu : X.A.units + 65 < cLine) (hm : behindInMarks .In b = false) (ha : PE X a (TEm X S W ma)) (hb : PE X b (TEm X S W mb)) : PE X (.Compare a [.In] [b] pos) (TEm X S W <| e2 gIn ma mb) := pe_2 (fun t u ha hb => pe_cmpR (op_in_seq.or (op_inD hu)) ha hb hm) (fun _ _ _ _ h => (rD2_or h).imp inF_ok inDp_ok) ha hb
theorem pt_in' (hu : X.A.units + 65 < cLine) (hm : behindInMarks .In b = false) (ha : PE X a (TEm X S W ma)) (hb : PE X b (TEm X S W mb)) : PT X (.Compare a [.In] [b] pos) (TTm X S W <| tBl (e2 gIn ma mb)) := pt_cmp2 (op_in_seq.or (op_inD hu)) hm (fun _ _ _ _ h => (rD2_or h).imp inF_ok inDp_ok) ha hb
theorem pe_nin' (hu : X.A.units + 65 < cLine) (hm : behindInMarks .NotIn b = false) (ha : PE X a (TEm X S W ma)) (hb : PE X b (TEm X S W mb)) : PE X (.Compare a [.NotIn] [b] pos) (TEm X S W <| e2 gNin ma mb) := pe_2 (fun t u ha hb => pe_cmpR (op_notIn_seq.or (op_notInD hu)) ha hb hm) (fun _ _ _ _ h => (rD2_or h).imp ninF_ok ninDp_ok) ha hb
theorem pt_nin' (hu : X.A.units + 65 < cLine) (hm : behindInMarks .NotIn b = false) (ha : PE X a (TEm X S W ma)) (hb : PE X b (TEm X S W mb)) : PT X (.Compare a [.NotIn] [b] pos) (TTm X S W <| tBl (e2 gNin ma mb)) := pt_cmp2 (op_notIn_seq.or (op_notInD hu)) hm (fun _ _ _ _ h => (rD2_or h).imp ninF_ok ninDp_ok) ha hb
end

/-! ### subscripts, slices -/
def gIx (x y : D) (μ : Mem) : Option D := match y with
  | .int i => match seqOf μ x with
    | some xs => atI xs i
    | none => none
  | _ => none
section
variable {K : PySem.W.Frag} {mg : Str → Option Value} {T : List (Addr × Str)} {x y : V} {H : Hp} {Q : VK}
theorem ix_r (h : rD2 K mg T gIx x y H Q) : rIx K x y H Q := by
  obtain ⟨w, μ, dx, dy, d, r, rx, ry, e, q⟩ := h
  unfold gIx at e
  split at e
  · cases ry
    split at e
    · next xs hx =>
      obtain ⟨a, vs, rfl, h2, h3⟩ := seqOf_rel r rx hx
      obtain ⟨v, hv, rv⟩ := h3.atI e
      rcases h2 with h2 | h2
      · exact .inl ⟨a, vs, _, v, rfl, rfl, h2, hv, q.same r rv⟩
      · exact .inr (.inl ⟨a, vs, _, v, rfl, rfl, h2, hv, q.same r rv⟩)
    · cases e
  · cases e
end
abbrev OM := Sv → Mem → Out (Option Int)
def oNo : OM := fun _ μ => .ok none μ
def oSome (ma : EM) : OM := fun δ μ => (ma δ μ).bind fun x μ1 => match x with
  | .int i => .ok (some i) μ1
  | _ => .stuck
abbrev TOm (X : Cx) (S : SI) (W : WX) (m : OM) : TO := tM X.K X.mg S W (fun _ (a b : Option Int) => a = b) m
def cutD (ds : List D) (lo hi : Option Int) : List D := (ds.drop (HT.sIx ds.length 0 lo)).take (HT.sIx ds.length ds.length hi - HT.sIx ds.length 0 lo)
def gSl (x : D) (lo hi : Option Int) (μ : Mem) : Option D := match x with
  | .tup xs => some (.tup (cutD xs lo hi))
  | x => match lstOf μ x with
    | some xs => some (.lst (cutD xs lo hi))
    | none => none
def eSl (mx : EM) (ml mh : OM) : EM := fun δ μ => (mx δ μ).bind fun x μ1 => (ml δ μ1).bind fun lo μ2 => (mh δ μ2).bind fun hi μ3 => oOf (gSl x lo hi μ3) μ3
section
variable {X : Cx} {S : SI} {W : WX} {a b e : Expr} {ma mb : EM} {ml mh : OM} {pos p2 : Pos} {lo hi : Option Expr}
theorem POi {e : Option Expr} {t t' : TO} (h : PO X e t') (i : ∀ σ H Q, t σ H Q → t' σ H Q) : PO X e t := ⟨fun pins s σ H Q I q => h.run pins s σ H Q I (i _ _ _ q)⟩
theorem po_none' : PO X none (TOm X S W oNo) := POi po_none fun σ H Q ⟨w, δ, μ, h⟩ => h.2.2 w none H (Wd.Le.refl _) h.2.1 rfl
theorem po_some' (ha : PE X a (TEm X S W ma)) : PO X (some a) (TOm X S W <| oSome ma) := POi (po_some ha) fun σ H Q ⟨w, δ, μ, h⟩ => ⟨w, δ, μ, (At.bind h).mono fun x H1 ⟨w1, μ1, d, le, rd, h1⟩ => by
  have h3 := h1.2.2
  split at h3
  · cases rd
    exact ⟨_, rfl, h3 w1 _ H1 (Wd.Le.refl _) h1.2.1 rfl⟩
  · exact h3.elim⟩
theorem pe_ix' (hs : PlainIx b) (ha : PE X a (TEm X S W ma)) (hb : PE X b (TEm X S W mb)) : PE X (.Subscript a b pos) (TEm X S W <| e2 gIx ma mb) := pe_2 (fun t u ha hb => pe_ix ix_seq ha hb hs) (fun _ _ _ _ => ix_r) ha hb
theorem cut_all {xs : List V} {lo hi : Option Int} (h : HT.sIx xs.length 0 lo = 0 ∧ HT.sIx xs.length xs.length hi = xs.length) : L2.cutV xs lo hi = xs := by
  unfold L2.cutV
  rw [h.1, h.2]
  simp
theorem cutD_all {xs : List D} {lo hi : Option Int} (h : HT.sIx xs.length 0 lo = 0 ∧ HT.sIx xs.length xs.length hi = xs.length) : cutD xs lo hi = xs := by
  unfold cutD
  rw [h.1, h.2]
  simp
theorem pe_slice' (he : PE X e (TEm X S W ma)) (hl : PO X lo (TOm X S W ml)) (hu : PO X hi (TOm X S W mh)) : PE X (.Subscript e (.Slice lo hi none p2) pos) (TEm X S W <| eSl ma ml mh) :=
  PEi (pe_slice (sl_list.or sl_tupA) he hl hu) fun σ H Q ⟨w, δ, μ, h⟩ => ⟨w, δ, μ, (At.bind h).mono fun x H1 ⟨w1, μ1, d, le, rd, h1⟩ => ⟨w1, δ, μ1, (At.bind h1).mono fun l H2 ⟨w2, μ2, l', le2, re, h2⟩ =>
    ⟨w2, δ, μ2, (At.bind h2).mono fun u H3 ⟨w3, μ3, u', le3, ru, h3⟩ => by
      cases re; cases ru
      obtain ⟨z, e, q⟩ := h3.opt
      have rx := (rd.mono le2).mono le3
      have r := h3.2.1
      unfold gSl at e
      split at e
      · cases e
        obtain ⟨a, vs, rfl, h4, h5⟩ := tupOf_rel r rx rfl
        refine .inr ⟨a, vs, rfl, h4, fun hh => ?_, fun _ => q.tup r (h5.cutV _ _)⟩
        rw [← h5.length] at hh
        rw [cutD_all hh] at q
        exact q.same r rx
      · split at e
        · next ys hy =>
          cases e
          obtain ⟨a, vs, rfl, h4, h5⟩ := lstOf_rel r rx hy
          exact .inl ⟨a, vs, rfl, h4, q.lst r (h5.cutV _ _)⟩
        · cases e⟩⟩⟩
/-- a list backwards: xs[::0 - 1] -/
def gRevL (x : D) (μ : Mem) : Option D := match lstOf μ x with
  | some xs => some (.lst xs.reverse)
  | none => none
theorem pe_revL1 {te : TE} {p3 : Pos} {st : Expr} (hst : PO X (some st) (fun _ H Q => Q (some (-1)) H)) (he : PE X e te) (hsu : ∀ a b, subscripted (.Slice none none (some st) p3) false (.ref a) (.ref b) = operate [.ref a, .ref b] (getItem (.ref a) (.ref b))) :
    PE X (.Subscript e (.Slice none none (some st) p3) pos) (tRevL X.K te) := by
  refine ⟨fun pins s σ H Q I h => ?_⟩
  refine Subscript_ (thn (he.run pins s σ H _ I h) fun v s1 ⟨x, H1, I1, r1, q1⟩ => ?_)
  obtain ⟨a, xs, ex, hx, q⟩ := q1
  subst ex
  cases r1
  refine wpAny_Slice (thn (po_none.run pins s1 σ H1 (fun o H2 => o = none ∧ H2 = H1) I1 ⟨rfl, rfl⟩) fun vl s2 ⟨l, H2, I2, pl, el, e2⟩ => ?_)
  subst el e2
  refine thn (po_none.run pins s2 σ H2 (fun o H3 => o = none ∧ H3 = H2) I2 ⟨rfl, rfl⟩) fun vu s3 ⟨u, H3, I3, pu, eu, e3⟩ => ?_
  subst eu e3
  refine thn (hst.run pins s3 σ H3 (fun o H4 => o = some (-1) ∧ H4 = H3) I3 ⟨rfl, rfl⟩) fun vs s4 ⟨o, H4, I4, ps, eo, e4⟩ => ?_
  subst eo e4
  have I5 : Inv X pins σ H4 { s4 with heap := s4.heap.push { cls := .type "slice", data := .fields #[vl, vu, vs] } } := I4.kept (t' := s4.toks) fun b ob q => Heap.get?_push_of_some _ q
  obtain ⟨its, r, ht, hz⟩ := I5.list hx
  have hlen := r.length
  refine tail_any (ops := [.ref a, .ref s4.heap.objs.size]) ht.isList.typeIs (PySem.slot_list_getitem.lookup) ?_ (hsu _ _)
  refine wpAny_getItem_list_slice ht.isList (Heap.IsSliceOf.new _ vl vu vs) pl pu ps (by decide) ?_ (by rw [List.size_toArray]; omega)
  rw [PySem.W.krv_pick]
  refine ⟨.ref _, _, I5.laid (t' := s4.toks) (o := .lst xs.reverse) (fun b ob q => Heap.get?_push_of_some _ q) (Nat.le_refl _) ?_, rfl, q _ (I5.hok.fresh (Nat.le_refl _))⟩
  exact ⟨by rw [List.length_reverse]; exact hz, _, 0, r.reverse, Heap.get?_push_size _ rfl⟩
theorem po_neg1 {k k' : Nat} {p1 p2 p3 : Pos} : PO X (some (.BinOp (.Constant (.int 0) k p1) .Sub (.Constant (.int 1) k' p2) p3)) (fun _ H Q => Q (some (-1)) H) :=
  POi (po_some (pe_op op_sub pe_int pe_int)) fun σ H Q h => ⟨0, 1, rfl, rfl, -1, rfl, h⟩
theorem pe_revL' {k k' : Nat} {p1 p2 p3 p4 : Pos} (he : PE X e (TEm X S W ma)) : PE X (.Subscript e (.Slice none none (some (.BinOp (.Constant (.int 0) k p1) .Sub (.Constant (.int 1) k' p2) p3)) p4) pos) (TEm X S W <| e1 gRevL ma) :=
  pe_1 (r := fun x H1 Q => ∃ a xs, x = .ref a ∧ SqL X.K H1 a xs ∧ ∀ p, H1 p = none → Q (.ref p) (upd H1 p (.lst xs.reverse))) (fun t ht => pe_revL1 po_neg1 ht (fun _ _ => by with_unfolding_all rfl)) (fun x H Q ⟨w, μ, dx, d, r, rx, e, q⟩ => by
    unfold gRevL at e
    split at e
    · next xs hx =>
      cases e
      obtain ⟨a, vs, h1, h2, h3⟩ := lstOf_rel r rx hx
      exact ⟨a, vs, h1, h2, q.lst r h3.reverse⟩
    · cases e) he
end
end Kw

set_option Elab.async false
set_option linter.all false
set_option maxRecDepth 100000
namespace Kw
open PySem PySem.Spec PyProof.Rows L2

/-! ### built-in functions -/
def gLen : List D → Mem → Option D
  | [.str y], _ => if y.length ≤ sizeLine then some (.int y.length) else none
  | [.loc l], μ => match μ[l]? with
    | some (.lst xs) => some (.int xs.length)
    | some (.dct kvs) => some (.int kvs.length)
    | _ => none
  | [x], μ => match seqOf μ x with
    | some xs => some (.int xs.length)
    | none => none
  | _, _ => none
def gAbs : List D → Mem → Option D
  | [.int i], _ => some (.int (if i < 0 then -i else i))
  | _, _ => none
def gInt : List D → Mem → Option D
  | [.int i], _ => some (.int i)
  | [.bl k], _ => some (.int (if k then 1 else 0))
  | _, _ => none
def gTuple : List D → Mem → Option D
  | [.tup xs], _ => some (.tup xs)
  | [x], μ => match lstOf μ x with
    | some xs => some (.tup xs)
    | none => none
  | _, _ => none
def gList : List D → Mem → Option D
  | [x], μ => match seqOf μ x with
    | some xs => some (.lst xs)
    | none => none
  | _, _ => none
def boolsOf : List D → Option (List Bool)
  | [] => some []
  | .bl b :: ds => match boolsOf ds with
    | some bs => some (b :: bs)
    | none => none
  | _ => none
def intsOf : List D → Option (List Int)
  | [] => some []
  | .int b :: ds => match intsOf ds with
    | some bs => some (b :: bs)
    | none => none
  | _ => none
def gAll : List D → Mem → Option D
  | [x], μ => match lstOf μ x with
    | some xs => match boolsOf xs with
      | some bs => some (.bl (bs.all id))
      | none => none
    | none => none
  | _, _ => none
def gAny : List D → Mem → Option D
  | [x], μ => match lstOf μ x with
    | some xs => match boolsOf xs with
      | some bs => some (.bl (bs.any id))
      | none => none
    | none => none
  | _, _ => none
def gSum : List D → Mem → Option D
  | [x], μ => match lstOf μ x with
    | some xs => match intsOf xs with
      | some bs => some (.int bs.sum)
      | none => none
    | none => none
  | _, _ => none
def gMax2 : List D → Mem → Option D
  | [.int i, .int j], _ => some (.int (if j > i then j else i))
  | _, _ => none
def gMin2 : List D → Mem → Option D
  | [.int i, .int j], _ => some (.int (if j < i then j else i))
  | _, _ => none
/-- the names of the types that isinstance is asked about -/
def tyS (μ : Mem) : D → Option String
  | .non => some "NoneType"
  | .bl _ => some "bool"
  | .int _ => some "int"
  | .str _ => some "str"
  | .tup _ => some "tuple"
  | .lst _ => some "list"
  | .scr _ => some "list"
  | .loc l => match μ[l]? with
    | some (.lst _) => some "list"
    | some (.dct _) => some "dict"
    | _ => none
  | _ => none
def tyL : List String := ["int", "bool", "str", "NoneType", "list", "tuple", "dict"]
def tyB (a b : String) : Bool := a == b || (a == "bool" && b == "int")
theorem kitB_tab : ∀ a ∈ tyL, ∀ b ∈ tyL, kitB a b = some (tyB a b) := by decide +kernel
def gIsi (ns : List String) (x : D) (μ : Mem) : Option D := match tyS μ x with
  | some a => some (.bl (ns.any (tyB a)))
  | none => none
def gRepr : List D → Mem → Option D
  | [x], μ => match pyOf μ x with
    | some p => if p.showable = true ∧ p.hasDict = false ∧ p.depth ≤ 100 ∧ p.shown.length ≤ sizeLine then some (.str p.shown) else none
    | none => none
  | _, _ => none
section
variable {K : PySem.W.Frag} {mg : Str → Option Value} {T : List (Addr × Str)} {xs : List V} {x y : V} {H : Hp} {Q : VK}
theorem RelDs.one1 {w : Wd} {d : D} (r : RelDs K mg w [d] xs) : ∃ x, xs = [x] ∧ RelD K mg w d x := by
  cases r with
  | cons r t => cases t; exact ⟨_, rfl, r⟩
theorem RelDs.two2 {w : Wd} {d e : D} (r : RelDs K mg w [d, e] xs) : ∃ x y, xs = [x, y] ∧ RelD K mg w d x ∧ RelD K mg w e y := by
  cases r with
  | cons r t =>
    obtain ⟨y, rfl, h⟩ := t.one1
    exact ⟨_, _, rfl, r, h⟩
theorem len_r (h : rDs K mg T gLen xs H Q) : (∃ p ys, xs = [.ref p] ∧ (SqL K H p ys ∨ SqT K H p ys) ∧ Q (.int ys.length) H) ∨ (∃ z, xs = [.str z] ∧ z.length ≤ sizeLine ∧ Q (.int z.length) H) ∨ ∃ a kvs, xs = [V.ref a] ∧ H a = some (.dK kvs) ∧ Q (.int kvs.length) H := by
  obtain ⟨w, μ, ds, d, r, rs, e, q⟩ := h
  unfold gLen at e
  split at e
  · obtain ⟨x, rfl, rx⟩ := rs.one1
    cases rx
    split at e
    · next hl => cases e; exact .inr (.inl ⟨_, rfl, hl, q.same r (.int _)⟩)
    · cases e
  · obtain ⟨x, rfl, rx⟩ := rs.one1
    cases rx
    split at e
    · next ys hy =>
      cases e
      obtain ⟨vs, h1, h2⟩ := r.lst hy
      exact .inl ⟨_, vs, rfl, .inl (.inl (.inl h1)), by rw [← h2.length]; exact q.same r (.int _)⟩
    · next kvs hy =>
      cases e
      have z := (r.ob _ _ hy).1
      generalize eo : H (w.ρ _) = o at z
      cases z with
      | @dct _ gs hk hv =>
        have : kvs.length = gs.length := by have := congrArg List.length hk; simpa using this
        exact .inr (.inr ⟨_, gs, rfl, eo, by rw [← this]; exact q.same r (.int _)⟩)
    · cases e
  · obtain ⟨x, rfl, rx⟩ := rs.one1
    split at e
    · next ys hy =>
      cases e
      obtain ⟨a, vs, rfl, h2, h3⟩ := seqOf_rel r rx hy
      exact .inl ⟨a, vs, rfl, h2, by rw [← h3.length]; exact q.same r (.int _)⟩
    · cases e
  · cases e
theorem abs_r (h : rDs K mg T gAbs xs H Q) : ∃ i, xs = [.int i] ∧ Q (.int (if i < 0 then -i else i)) H := by
  obtain ⟨w, μ, ds, d, r, rs, e, q⟩ := h
  unfold gAbs at e
  split at e
  · obtain ⟨x, rfl, rx⟩ := rs.one1
    cases rx; cases e
    exact ⟨_, rfl, q.same r (.int _)⟩
  · cases e
theorem int_r (h : rDs K mg T gInt xs H Q) : (∃ i, xs = [.int i] ∧ Q (.int i) H) ∨ ∃ k, xs = [.bl k] ∧ Q (.int (if k then 1 else 0)) H := by
  obtain ⟨w, μ, ds, d, r, rs, e, q⟩ := h
  unfold gInt at e
  split at e
  · obtain ⟨x, rfl, rx⟩ := rs.one1
    cases rx; cases e
    exact .inl ⟨_, rfl, q.same r (.int _)⟩
  · obtain ⟨x, rfl, rx⟩ := rs.one1
    cases rx; cases e
    exact .inr ⟨_, rfl, q.same r (.int _)⟩
  · cases e
theorem tuple_r (h : rDs K mg T gTuple xs H Q) : ∃ p ys, xs = [.ref p] ∧ ((SqL K H p ys ∧ ∀ l, H l = none → Q (.ref l) (upd H l (.tup ys))) ∨ (SqT K H p ys ∧ Q (.ref p) H)) := by
  obtain ⟨w, μ, ds, d, r, rs, e, q⟩ := h
  unfold gTuple at e
  split at e
  · obtain ⟨x, rfl, rx⟩ := rs.one1
    cases e
    obtain ⟨a, vs, rfl, h2, h3⟩ := tupOf_rel r rx rfl
    exact ⟨a, vs, rfl, .inr ⟨h2, q.same r rx⟩⟩
  · obtain ⟨x, rfl, rx⟩ := rs.one1
    split at e
    · next ys hy =>
      cases e
      obtain ⟨a, vs, rfl, h2, h3⟩ := lstOf_rel r rx hy
      exact ⟨a, vs, rfl, .inl ⟨h2, q.tup r h3⟩⟩
    · cases e
  · cases e
theorem list_r (h : rDs K mg T gList xs H Q) : ∃ p ys, xs = [.ref p] ∧ (SqL K H p ys ∨ SqT K H p ys) ∧ ∀ l, H l = none → Q (.ref l) (upd H l (.lst ys)) := by
  obtain ⟨w, μ, ds, d, r, rs, e, q⟩ := h
  unfold gList at e
  split at e
  · obtain ⟨x, rfl, rx⟩ := rs.one1
    split at e
    · next ys hy =>
      cases e
      obtain ⟨a, vs, rfl, h2, h3⟩ := seqOf_rel r rx hy
      exact ⟨a, vs, rfl, h2, q.lst r h3⟩
    · cases e
  · cases e
theorem bools_r {w : Wd} : ∀ {ds : List D} {vs : List V} {bs : List Bool}, RelDs K mg w ds vs → boolsOf ds = some bs → vs = bs.map V.bl
  | [], _, _, .nil, h => by cases h; rfl
  | d :: ds, _, bs, .cons r t, h => by
    unfold boolsOf at h
    split at h
    · next e => cases e
    · next b ds' e =>
      cases e
      cases r
      split at h
      · next cs hc => cases h; rw [bools_r t hc]; rfl
      · cases h
    · cases h
theorem ints_r {w : Wd} : ∀ {ds : List D} {vs : List V} {bs : List Int}, RelDs K mg w ds vs → intsOf ds = some bs → vs = bs.map V.int
  | [], _, _, .nil, h => by cases h; rfl
  | d :: ds, _, bs, .cons r t, h => by
    unfold intsOf at h
    split at h
    · next e => cases e
    · next b ds' e =>
      cases e
      cases r
      split at h
      · next cs hc => cases h; rw [ints_r t hc]; rfl
      · cases h
    · cases h
theorem all_r (h : rDs K mg T gAll xs H Q) : rAll K xs H Q := by
  obtain ⟨w, μ, ds, d, r, rs, e, q⟩ := h
  unfold gAll at e
  split at e
  · obtain ⟨x, rfl, rx⟩ := rs.one1
    split at e
    · next ys hy =>
      obtain ⟨a, vs, rfl, h2, h3⟩ := lstOf_rel r rx hy
      split at e
      · next bs hb => cases e; exact ⟨a, bs, rfl, by rw [← bools_r h3 hb]; exact h2, q.same r (.bl _)⟩
      · cases e
    · cases e
  · cases e
theorem any_r (h : rDs K mg T gAny xs H Q) : rAny K xs H Q := by
  obtain ⟨w, μ, ds, d, r, rs, e, q⟩ := h
  unfold gAny at e
  split at e
  · obtain ⟨x, rfl, rx⟩ := rs.one1
    split at e
    · next ys hy =>
      obtain ⟨a, vs, rfl, h2, h3⟩ := lstOf_rel r rx hy
      split at e
      · next bs hb => cases e; exact ⟨a, bs, rfl, by rw [← bools_r h3 hb]; exact h2, q.same r (.bl _)⟩
      · cases e
    · cases e
  · cases e
theorem sum_r (h : rDs K mg T gSum xs H Q) : rSum K xs H Q := by
  obtain ⟨w, μ, ds, d, r, rs, e, q⟩ := h
  unfold gSum at e
  split at e
  · obtain ⟨x, rfl, rx⟩ := rs.one1
    split at e
    · next ys hy =>
      obtain ⟨a, vs, rfl, h2, h3⟩ := lstOf_rel r rx hy
      split at e
      · next bs hb => cases e; exact ⟨a, bs, rfl, by rw [← ints_r h3 hb]; exact h2, q.same r (.int _)⟩
      · cases e
    · cases e
  · cases e
theorem max2_r (h : rDs K mg T gMax2 xs H Q) : ∃ i j, xs = [.int i, .int j] ∧ Q (.int (if j > i then j else i)) H := by
  obtain ⟨w, μ, ds, d, r, rs, e, q⟩ := h
  unfold gMax2 at e
  split at e
  · obtain ⟨x, y, rfl, rx, ry⟩ := rs.two2
    cases rx; cases ry; cases e
    exact ⟨_, _, rfl, q.same r (.int _)⟩
  · cases e
theorem min2_r (h : rDs K mg T gMin2 xs H Q) : ∃ i j, xs = [.int i, .int j] ∧ Q (.int (if j < i then j else i)) H := by
  obtain ⟨w, μ, ds, d, r, rs, e, q⟩ := h
  unfold gMin2 at e
  split at e
  · obtain ⟨x, y, rfl, rx, ry⟩ := rs.two2
    cases rx; cases ry; cases e
    exact ⟨_, _, rfl, q.same r (.int _)⟩
  · cases e
theorem sqT_ty {a : Addr} {vs : List V} (h : SqT K H a vs) : TyX K H (.ref a) (.type "tuple") := by
  rcases h with (h | ⟨o, h⟩) | ⟨o, its, n, h, hc, _⟩
  · exact .base (.tup h)
  · exact .fTuple h
  · exact .kTuple h hc
theorem sqL_ty {a : Addr} {vs : List V} (h : SqL K H a vs) : TyX K H (.ref a) (.type "list") := by
  rcases h with (h | ⟨o, h⟩) | ⟨o, its, n, h, hc, _⟩
  · exact .base (.lst h)
  · exact .base (.frz h)
  · exact .kList h hc
theorem tyS_rel {w : Wd} {μ : Mem} {d : D} {n : String} (r : RelM K mg T w μ H) (rd : RelD K mg w d x) (h : tyS μ d = some n) : TyX K H x (.type n) ∧ n ∈ tyL := by
  cases rd with
  | non => cases h; exact ⟨.base .non, by decide⟩
  | bl b => cases h; exact ⟨.base (.bl b), by decide⟩
  | int i => cases h; exact ⟨.base (.int i), by decide⟩
  | str y => cases h; exact ⟨.base (.str y), by decide⟩
  | tup e rs => cases h; exact ⟨sqT_ty (sqT_mono r.φ e), by decide⟩
  | lst e rs => cases h; exact ⟨.base (.lst (r.φ _ _ e)), by decide⟩
  | scr e rs => cases h; exact ⟨sqL_ty (scr_H r e), by decide⟩
  | @loc l hl =>
    simp only [tyS] at h
    split at h
    · next ys hy =>
      cases h
      obtain ⟨vs, h1, h2⟩ := r.lst hy
      exact ⟨.base (.lst h1), by decide⟩
    · next kvs hy =>
      cases h
      have z := (r.ob _ _ hy).1
      generalize eo : H (w.ρ _) = o at z
      cases z with
      | @dct _ gs hk hv => exact ⟨.base (.dK eo), by decide⟩
    · cases h
  | _ => cases h
theorem kitAny_of {a : String} (ha : a ∈ tyL) : ∀ (ns : List String), (∀ n ∈ ns, n ∈ tyL) → PySem.W.kitAny K (.type a) (ns.map Value.type) = some (ns.any (tyB a))
  | [], _ => rfl
  | n :: ns, h => by
    have h1 := kit_ty (K := K) (kitB_tab a ha n (h n List.mem_cons_self))
    have h2 := kitAny_of ha ns (fun m hm => h m (List.mem_cons_of_mem _ hm))
    refine kitAny_cons h1 (fun hb => ?_) fun hb => ?_
    · rw [h2, List.any_cons, hb, Bool.false_or]
    · rw [List.any_cons, hb, Bool.true_or]
end
def eIsi (ns : List String) (ma : EM) : EM := e1 (gIsi ns) ma
section
variable {X : Cx} {S : SI} {W : WX} {a b e o : Expr} {es : List Expr} {ma mb mo : EM} {mr : AM} {pos p p' apos : Pos} {x : Str} {k : Nat}
theorem Paired.map_ty : ∀ ns : List String, Paired ClsV (ns.map V.ty) (ns.map Value.type)
  | [] => .nil
  | n :: ns => .cons (.ty n) (Paired.map_ty ns)
/-- isinstance(a, T) -/
theorem pe_isi1 {n : String} (hn : n ∈ tyL) (hg : Gl X "isinstance") (hm : X.mg "isinstance" = none) (hT : PE X b (tC (.ty n))) (ha : PE X a (TEm X S W ma))
    (he : starEach (a :: [b]) X.env = (false, eval a X.env) :: starEach [b] X.env := by rfl) (hpl : (backTo pos (starEach [b] X.env)).any (·.1) = false := by rfl) (he2 : starEach (b :: []) X.env = (false, eval b X.env) :: starEach [] X.env := by rfl) :
    PE X (.Call (.Name "isinstance" p) [a, b] [] pos) (TEm X S W <| e1 (gIsi [n]) ma) :=
  PEi (pe_callB call_isi hg hm (by decide +kernel) (pa_cons ha (pa_cons hT pa_nil he2) he) (by decide) (by decide) he hpl) fun σ H Q ⟨w, δ, μ, h⟩ => ⟨w, δ, μ, (At.bind h).mono fun x H1 ⟨w1, μ1, d, le, rd, h1⟩ => by
    obtain ⟨z, e, q⟩ := h1.opt
    unfold gIsi at e
    split at e
    · next ty hty =>
      cases e
      obtain ⟨t1, t2⟩ := tyS_rel h1.2.1 rd hty
      refine ⟨x, .ty n, _, .type n, tyB ty n, rfl, .ty n, t1, kit_ty (kitB_tab ty t2 n hn), ?_⟩
      have := q.same h1.2.1 (.bl _)
      simpa using this
    · cases e⟩
/-- isinstance(a, (T, U)) -/
theorem pe_isiT {ns : List String} (hn : ∀ n ∈ ns, n ∈ tyL) (hl : ns.length ≤ sizeLine) (hg : Gl X "isinstance") (hm : X.mg "isinstance" = none) (hT : PA X es (fun _ H Q => Q (ns.map V.ty) H)) (ha : PE X a (TEm X S W ma))
    (he : starEach (a :: [.Tuple es k p']) X.env = (false, eval a X.env) :: starEach [.Tuple es k p'] X.env := by rfl) (hpl : (backTo pos (starEach [.Tuple es k p'] X.env)).any (·.1) = false := by rfl) (he2 : starEach (.Tuple es k p' :: []) X.env = (false, eval (.Tuple es k p') X.env) :: starEach [] X.env := by rfl) :
    PE X (.Call (.Name "isinstance" p) [a, .Tuple es k p'] [] pos) (TEm X S W <| e1 (gIsi ns) ma) :=
  PEi (pe_callB call_isiT hg hm (by decide +kernel) (pa_cons ha (pa_cons (pe_tup hT) pa_nil he2) he) (by decide) (by decide) he hpl) fun σ H Q ⟨w, δ, μ, h⟩ => ⟨w, δ, μ, (At.bind h).mono fun x H1 ⟨w1, μ1, d, le, rd, h1⟩ => by
    obtain ⟨z, e, q⟩ := h1.opt
    unfold gIsi at e
    split at e
    · next ty hty =>
      cases e
      have r := h1.2.1
      refine ⟨by rw [List.length_map]; exact hl, fun p hp => ?_⟩
      have r' := r.lay hp (o := .tup (ns.map V.ty)) (fun _ => nofun)
      have le' := r.lay_le hp (.tup (ns.map V.ty))
      obtain ⟨t1, t2⟩ := tyS_rel r' (rd.mono le') hty
      exact ⟨x, p, ns.map V.ty, _, ns.map Value.type, _, rfl, upd_same, Paired.map_ty ns, t1, kitAny_of t2 ns hn, q _ _ _ le' r' (.bl _)⟩
    · cases e⟩
theorem pe_len' (hg : Gl X "len") (hm : X.mg "len" = none) (ha : PA X (e :: es) (TAm X S W mr)) (he : starEach (e :: es) X.env = (false, eval e X.env) :: starEach es X.env := by rfl) (hpl : (backTo pos (starEach es X.env)).any (·.1) = false := by rfl) :
    PE X (.Call (.Name "len" p) (e :: es) [] pos) (TEm X S W <| eAs gLen mr) := pe_As (fun t h => pe_callB (call_len_seq.or (call_len_str.or call_lenD)) hg hm PySem.boot_len h (by decide) (by decide) he hpl) (fun _ _ _ => len_r) ha
theorem pe_abs' (hg : Gl X "abs") (hm : X.mg "abs" = none) (ha : PA X (e :: es) (TAm X S W mr)) (he : starEach (e :: es) X.env = (false, eval e X.env) :: starEach es X.env := by rfl) (hpl : (backTo pos (starEach es X.env)).any (·.1) = false := by rfl) :
    PE X (.Call (.Name "abs" p) (e :: es) [] pos) (TEm X S W <| eAs gAbs mr) := pe_As (fun t h => pe_callB call_abs hg hm (by decide +kernel) h (by decide) (by decide) he hpl) (fun _ _ _ => abs_r) ha
theorem pe_int' (hg : Gl X "int") (hm : X.mg "int" = none) (ha : PA X (e :: es) (TAm X S W mr)) (he : starEach (e :: es) X.env = (false, eval e X.env) :: starEach es X.env := by rfl) (hpl : (backTo pos (starEach es X.env)).any (·.1) = false := by rfl) :
    PE X (.Call (.Name "int" p) (e :: es) [] pos) (TEm X S W <| eAs gInt mr) := pe_As (fun t h => pe_callTy call_int1 hg hm (by decide +kernel) h (by decide) (by decide) he hpl) (fun _ _ _ => int_r) ha
theorem pe_tuple' (hg : Gl X "tuple") (hm : X.mg "tuple" = none) (ha : PA X (e :: es) (TAm X S W mr)) (he : starEach (e :: es) X.env = (false, eval e X.env) :: starEach es X.env := by rfl) (hpl : (backTo pos (starEach es X.env)).any (·.1) = false := by rfl) :
    PE X (.Call (.Name "tuple" p) (e :: es) [] pos) (TEm X S W <| eAs gTuple mr) := pe_As (fun t h => pe_callTy call_tuple_of hg hm (by decide +kernel) h (by decide) (by decide) he hpl) (fun _ _ _ => tuple_r) ha
theorem pe_list' (hg : Gl X "list") (hm : X.mg "list" = none) (ha : PA X (e :: es) (TAm X S W mr)) (he : starEach (e :: es) X.env = (false, eval e X.env) :: starEach es X.env := by rfl) (hpl : (backTo pos (starEach es X.env)).any (·.1) = false := by rfl) :
    PE X (.Call (.Name "list" p) (e :: es) [] pos) (TEm X S W <| eAs gList mr) := pe_As (fun t h => pe_callTy call_list_of hg hm (by decide +kernel) h (by decide) (by decide) he hpl) (fun _ _ _ => list_r) ha
theorem pe_all' (hc : X.calm = true) (hg : Gl X "all") (hm : X.mg "all" = none) (ha : PA X (e :: es) (TAm X S W mr)) (he : starEach (e :: es) X.env = (false, eval e X.env) :: starEach es X.env := by rfl) (hpl : (backTo pos (starEach es X.env)).any (·.1) = false := by rfl) :
    PE X (.Call (.Name "all" p) (e :: es) [] pos) (TEm X S W <| eAs gAll mr) := pe_As (fun t h => pe_callB (cr_all hc) hg hm (by decide +kernel) h (by decide) (by decide) he hpl) (fun _ _ _ => all_r) ha
theorem pe_any' (hc : X.calm = true) (hg : Gl X "any") (hm : X.mg "any" = none) (ha : PA X (e :: es) (TAm X S W mr)) (he : starEach (e :: es) X.env = (false, eval e X.env) :: starEach es X.env := by rfl) (hpl : (backTo pos (starEach es X.env)).any (·.1) = false := by rfl) :
    PE X (.Call (.Name "any" p) (e :: es) [] pos) (TEm X S W <| eAs gAny mr) := pe_As (fun t h => pe_callB (cr_any hc) hg hm (by decide +kernel) h (by decide) (by decide) he hpl) (fun _ _ _ => any_r) ha
theorem pe_sum' (hc : X.calm = true) (hg : Gl X "sum") (hm : X.mg "sum" = none) (ha : PA X (e :: es) (TAm X S W mr)) (he : starEach (e :: es) X.env = (false, eval e X.env) :: starEach es X.env := by rfl) (hpl : (backTo pos (starEach es X.env)).any (·.1) = false := by rfl) :
    PE X (.Call (.Name "sum" p) (e :: es) [] pos) (TEm X S W <| eAs gSum mr) := pe_As (fun t h => pe_callB (cr_sum hc) hg hm (by decide +kernel) h (by decide) (by decide) he hpl) (fun _ _ _ => sum_r) ha
theorem pe_max2' (hc : X.calm = true) (hg : Gl X "max") (hm : X.mg "max" = none) (ha : PA X (e :: es) (TAm X S W mr)) (he : starEach (e :: es) X.env = (false, eval e X.env) :: starEach es X.env := by rfl) (hpl : (backTo pos (starEach es X.env)).any (·.1) = false := by rfl) :
    PE X (.Call (.Name "max" p) (e :: es) [] pos) (TEm X S W <| eAs gMax2 mr) := pe_As (fun t h => pe_callB (call_max2 hc) hg hm (by decide +kernel) h (by decide) (by decide) he hpl) (fun _ _ _ => max2_r) ha
theorem pe_min2' (hc : X.calm = true) (hg : Gl X "min") (hm : X.mg "min" = none) (ha : PA X (e :: es) (TAm X S W mr)) (he : starEach (e :: es) X.env = (false, eval e X.env) :: starEach es X.env := by rfl) (hpl : (backTo pos (starEach es X.env)).any (·.1) = false := by rfl) :
    PE X (.Call (.Name "min" p) (e :: es) [] pos) (TEm X S W <| eAs gMin2 mr) := pe_As (fun t h => pe_callB (call_min2 hc) hg hm (by decide +kernel) h (by decide) (by decide) he hpl) (fun _ _ _ => min2_r) ha
theorem Dp.deep {K : PySem.W.Frag} {H : Hp} {d : PyData} {v : V} (h : Dp K H v d) : True := trivial
/-- repr: where no guard stands above -/
theorem call_repr_py (hgd : X.A.guards = some []) (hu : X.A.units + 200 < cLine) : CallR X (.builtin "repr") (fun xs H Q => ∃ x d, xs = [x] ∧ Dp X.K H x d ∧ d.showable = true ∧ d.hasDict = false ∧ d.depth ≤ 100 ∧ d.shown.length ≤ sizeLine ∧ Q (.str d.shown) H) := by
  intro pins s σ H xs us Q I r h
  obtain ⟨x, d, rfl, dp, hs, hd, h1, h2, q⟩ := h
  obtain ⟨u, rfl, rx⟩ := vals1 r
  cases dp with
  | non => cases rx; exact PySem.P.repr_of_none ⟨.str _, H, I.tok _, ⟨_, rfl⟩, q⟩
  | bl b =>
    cases rx
    exact PySem.P.repr_of_bool ⟨.str _, H, I.tok _, ⟨_, rfl⟩, by cases b <;> exact q⟩
  | int i =>
    obtain ⟨t, rfl⟩ := rx
    exact PySem.P.repr_of_int (of_decide_eq_true hs) ⟨.str _, H, I.tok _, ⟨_, rfl⟩, q⟩
  | str y =>
    obtain ⟨t, rfl⟩ := rx
    exact PySem.P.repr_of_str ⟨.str _, H, I.tok _, ⟨_, rfl⟩, q⟩ h2
  | @lst a ys ds e es =>
    cases rx
    obtain ⟨as, rd⟩ := Dp.reads I _ _ _ (.lst e es) (show RelV (.ref a) (.ref a) from rfl)
    exact repr_of_reads' rd hs (PyData.noDict_hsm hd) hgd (by omega) (fun _ _ e => e) (fun h' u tk hk => ⟨.str _, H, I.kept hk, ⟨_, rfl⟩, q⟩) h2
  | @tup a ys ds e es =>
    cases rx
    obtain ⟨as, rd⟩ := Dp.reads I _ _ _ (.tup e es) (show RelV (.ref a) (.ref a) from rfl)
    exact repr_of_reads' rd hs (PyData.noDict_hsm hd) hgd (by omega) (fun _ _ e => e) (fun h' u tk hk => ⟨.str _, H, I.kept hk, ⟨_, rfl⟩, q⟩) h2
theorem pe_repr' (hgd : X.A.guards = some []) (hu : X.A.units + 200 < cLine) (hg : Gl X "repr") (hm : X.mg "repr" = none) (ha : PA X (e :: es) (TAm X S W mr)) (he : starEach (e :: es) X.env = (false, eval e X.env) :: starEach es X.env := by rfl) (hpl : (backTo pos (starEach es X.env)).any (·.1) = false := by rfl) :
    PE X (.Call (.Name "repr" p) (e :: es) [] pos) (TEm X S W <| eAs gRepr mr) := pe_As (fun t h => pe_callB (call_repr_py hgd hu) hg hm (by decide +kernel) h (by decide) (by decide) he hpl) (fun xs H Q ⟨w, μ, ds, d, r, rs, e, q⟩ => by
    unfold gRepr at e
    split at e
    · obtain ⟨x, rfl, rx⟩ := rs.one1
      split at e
      · next p' hp =>
        split at e
        · next hh => cases e; exact ⟨x, p', rfl, pyOf_dp r rx hp, hh.1, hh.2.1, hh.2.2.1, hh.2.2.2, q.same r (.str _)⟩
        · cases e
      · cases e
    · cases e) ha
end

/-! ### methods of lists -/
def eMtL (g : D → List D → Mem → Option (D × Mem)) (mo : EM) (ma : AM) : EM := fun δ μ => (mo δ μ).bind fun x μ1 => if (lstX μ1 x).isSome = true then (ma δ μ1).bind fun xs μ2 => oOfM (g x xs μ2) else .stuck
def gAppend : D → List D → Mem → Option (D × Mem)
  | .loc l, [y], μ => match μ[l]? with
    | some (.lst xs) => if xs.length < sizeLine then some (.non, μ.set l (.lst (xs ++ [y]))) else none
    | _ => none
  | _, _, _ => none
def gExtend : D → List D → Mem → Option (D × Mem)
  | .loc l, [y], μ => match μ[l]?, lstX μ y with
    | some (.lst xs), some ys => if xs.length + ys.length ≤ sizeLine then some (.non, μ.set l (.lst (xs ++ ys))) else none
    | _, _ => none
  | _, _, _ => none
def gPop : D → List D → Mem → Option (D × Mem)
  | .loc l, [], μ => match μ[l]? with
    | some (.lst xs) => match xs[xs.length - 1]? with
      | some y => some (y, μ.set l (.lst xs.dropLast))
      | none => none
    | _ => none
  | .loc l, [.int i], μ => match μ[l]? with
    | some (.lst xs) => if -9223372036854775808 ≤ i ∧ i < 9223372036854775808 then match seqIndex? i xs.length with
      | some k => match xs[k]? with
        | some y => some (y, μ.set l (.lst (xs.eraseIdx k)))
        | none => none
      | none => none
      else none
    | _ => none
  | _, _, _ => none
section
variable {K : PySem.W.Frag} {mg : Str → Option Value} {T : List (Addr × Str)} {xs : List V} {x y : V} {H : Hp} {Q : VK}
theorem Then1.write {w : Wd} {μ : Mem} {l : Nat} {b b' : Ob} {o' : HO} {d : D} {v : V} (q : Then1 K mg T w (μ.set l b') Q d) (r : RelM K mg T w μ H) (hl : μ[l]? = some b) (hb : RelOb K mg w b' (some o')) (rd : RelD K mg w d v) (ng : b ≠ .gone := by nofun) (ng' : b' ≠ .gone := by nofun) : Q v (upd H (w.ρ l) o') :=
  q w v _ (Wd.Le.refl _) (r.write hl ng hb ng') rd
theorem append_r (h : rDm K mg T gAppend x xs H Q) : rAppend x xs H Q := by
  obtain ⟨w, μ, dx, ds, d, μ', r, rx, rs, e, q⟩ := h
  unfold gAppend at e
  split at e
  · obtain ⟨y, rfl, ry⟩ := rs.one1
    cases rx
    split at e
    · next ys hy =>
      split at e
      · next hl =>
        cases e
        obtain ⟨vs, h1, h2⟩ := r.lst hy
        exact ⟨_, vs, y, rfl, rfl, h1, by rw [← h2.length]; exact hl, q.write r hy (.lst (h2.append (.one ry))) .non⟩
      · cases e
    · cases e
  · cases e
theorem extend_r (h : rDm K mg T gExtend x xs H Q) : rExtend x xs H Q := by
  obtain ⟨w, μ, dx, ds, d, μ', r, rx, rs, e, q⟩ := h
  unfold gExtend at e
  split at e
  · obtain ⟨y, rfl, ry⟩ := rs.one1
    cases rx
    split at e
    · next ys zs hy hz =>
      split at e
      · next hl =>
        cases e
        obtain ⟨vs, h1, h2⟩ := r.lst hy
        obtain ⟨b, us, rfl, h3, h4⟩ := lstX_rel r ry hz
        exact ⟨_, b, vs, us, rfl, rfl, h1, h3, by rw [← h2.length, ← h4.length]; exact hl, q.write r hy (.lst (h2.append h4)) .non⟩
      · cases e
    · cases e
  · cases e
theorem RelDs.dropLast {w : Wd} {ds : List D} {vs : List V} (h : RelDs K mg w ds vs) : RelDs K mg w ds.dropLast vs.dropLast := by
  rw [List.dropLast_eq_take, List.dropLast_eq_take, ← h.length]
  exact h.take _
theorem pop_r (h : rDm K mg T gPop x xs H Q) : rPop x xs H Q ∨ rPopAt x xs H Q := by
  obtain ⟨w, μ, dx, ds, d, μ', r, rx, rs, e, q⟩ := h
  unfold gPop at e
  split at e
  · cases rs
    cases rx
    split at e
    · next ys hy =>
      split at e
      · next z hz =>
        cases e
        obtain ⟨vs, h1, h2⟩ := r.lst hy
        obtain ⟨v, hv, rv⟩ := h2.get hz
        exact .inl ⟨_, vs, v, rfl, rfl, h1, by rw [← h2.length]; exact hv, q.write r hy (.lst h2.dropLast) rv⟩
      · cases e
    · cases e
  · obtain ⟨y, rfl, ry⟩ := rs.one1
    cases rx
    cases ry
    split at e
    · next ys hy =>
      split at e
      · next hi =>
        split at e
        · next k hk =>
          split at e
          · next z hz =>
            cases e
            obtain ⟨vs, h1, h2⟩ := r.lst hy
            obtain ⟨v, hv, rv⟩ := h2.get hz
            exact .inr ⟨_, vs, _, k, v, rfl, rfl, h1, by have := hi.1; omega, by have := hi.2; omega, by rw [← h2.length]; exact hk, hv, q.write r hy (.lst (h2.eraseIdx k)) rv⟩
          · cases e
        · cases e
      · cases e
    · cases e
  · cases e
end
section
variable {X : Cx} {S : SI} {W : WX} {e o : Expr} {es : List Expr} {mo : EM} {mr : AM} {pos p apos : Pos}
theorem pe_mtL {g : D → List D → Mem → Option (D × Mem)} {r : V → List V → Hp → VK → Prop} (h : ∀ to t, PE X o to → PA X es t → PE X e (tBM X.K "list" r to t)) (hr : ∀ x xs H Q, rDm X.K X.mg S.T g x xs H Q → r x xs H Q) (ho : PE X o (TEm X S W mo)) (ha : PA X es (TAm X S W mr)) :
    PE X e (TEm X S W <| eMtL g mo mr) := PEi (h _ _ ho ha) fun σ H Q ⟨w, δ, μ, h⟩ => ⟨w, δ, μ, (At.bind h).mono fun x H1 ⟨w1, μ1, d, le, rd, h1⟩ => by
    split at h1
    · next hs =>
      obtain ⟨ys, hy⟩ := Option.isSome_iff_exists.mp hs
      obtain ⟨a, vs, rfl, h2, h3⟩ := lstX_rel h1.2.1 rd hy
      refine ⟨.inl ⟨rfl, vs, .inl (.inl h2)⟩, w1, δ, μ1, (At.bind h1).mono fun zs H2 ⟨w2, μ2, f, le2, re, h2⟩ => ?_⟩
      obtain ⟨z, μ3, e, q⟩ := h2.optM
      exact hr _ _ _ _ ⟨w2, μ2, d, f, z, μ3, h2.2.1, rd.mono le2, re, e, q⟩
    · exact h1.2.2.elim⟩
theorem MtR.ofM {id : String} {r : V → List V → Hp → VK → Prop} (h : MtM X id r) : MtR X id r := fun pins s σ H x xs v us Q I rx rs q => h pins s σ H x xs v us Q I rx rs q
theorem pe_append' (ho : PE X o (TEm X S W mo)) (ha : PA X (e :: es) (TAm X S W mr)) (hbase : attributeBase o "append" X.env (eval o X.env) = eval o X.env := by rfl)
    (hfew : ((backTo pos (starEach (e :: es) X.env)).all (fun x => !x.1) && (backToKw pos (keywordEach [] X.env)).all (fun x => x.1.isSome) && decide ((e :: es).length + ([] : List Keyword).length + (if ([] : List Keyword).isEmpty then 0 else 1) < 30)) = true := by rfl)
    (hline : (apos.endLine == pos.line) = true := by rfl) (hs : starEach (e :: es) X.env = (false, eval e X.env) :: starEach es X.env := by rfl) (hplain : (backTo pos (starEach es X.env)).any (·.1) = false := by rfl) :
    PE X (.Call (.Attribute o "append" apos) (e :: es) [] pos) (TEm X S W <| eMtL gAppend mo mr) :=
  pe_mtL (fun to t ho ha => pe_bm PySem.F.plainAttrs_list PySem.F.slot_list_append PySem.F.type_list_append (MtR.ofM mt_append) ho ha hbase hfew hline hs hplain) (fun _ _ _ _ => append_r) ho ha
theorem pe_extend' (ho : PE X o (TEm X S W mo)) (ha : PA X (e :: es) (TAm X S W mr)) (hbase : attributeBase o "extend" X.env (eval o X.env) = eval o X.env := by rfl)
    (hfew : ((backTo pos (starEach (e :: es) X.env)).all (fun x => !x.1) && (backToKw pos (keywordEach [] X.env)).all (fun x => x.1.isSome) && decide ((e :: es).length + ([] : List Keyword).length + (if ([] : List Keyword).isEmpty then 0 else 1) < 30)) = true := by rfl)
    (hline : (apos.endLine == pos.line) = true := by rfl) (hs : starEach (e :: es) X.env = (false, eval e X.env) :: starEach es X.env := by rfl) (hplain : (backTo pos (starEach es X.env)).any (·.1) = false := by rfl) :
    PE X (.Call (.Attribute o "extend" apos) (e :: es) [] pos) (TEm X S W <| eMtL gExtend mo mr) :=
  pe_mtL (fun to t ho ha => pe_bm PySem.F.plainAttrs_list PySem.F.slot_list_extend PySem.F.type_list_extend (MtR.ofM mt_extend) ho ha hbase hfew hline hs hplain) (fun _ _ _ _ => extend_r) ho ha
theorem pe_pop1' (ho : PE X o (TEm X S W mo)) (ha : PA X (e :: es) (TAm X S W mr)) (hbase : attributeBase o "pop" X.env (eval o X.env) = eval o X.env := by rfl)
    (hfew : ((backTo pos (starEach (e :: es) X.env)).all (fun x => !x.1) && (backToKw pos (keywordEach [] X.env)).all (fun x => x.1.isSome) && decide ((e :: es).length + ([] : List Keyword).length + (if ([] : List Keyword).isEmpty then 0 else 1) < 30)) = true := by rfl)
    (hline : (apos.endLine == pos.line) = true := by rfl) (hs : starEach (e :: es) X.env = (false, eval e X.env) :: starEach es X.env := by rfl) (hplain : (backTo pos (starEach es X.env)).any (·.1) = false := by rfl) :
    PE X (.Call (.Attribute o "pop" apos) (e :: es) [] pos) (TEm X S W <| eMtL gPop mo mr) :=
  pe_mtL (fun to t ho ha => pe_bm PySem.F.plainAttrs_list PySem.F.slot_list_pop PySem.F.type_list_pop (MtR.ofM mt_pop |>.or (MtR.ofM mt_popAt)) ho ha hbase hfew hline hs hplain) (fun _ _ _ _ => pop_r) ho ha
theorem pe_pop0' (ho : PE X o (TEm X S W mo)) (hbase : attributeBase o "pop" X.env (eval o X.env) = eval o X.env := by rfl) (hline : (apos.endLine == pos.line) = true := by rfl) :
    PE X (.Call (.Attribute o "pop" apos) [] [] pos) (TEm X S W <| eMtL gPop mo aNil) :=
  PEi (pe_bm0 PySem.F.plainAttrs_list PySem.F.slot_list_pop PySem.F.type_list_pop (MtR.ofM mt_pop |>.or (MtR.ofM mt_popAt)) ho hbase hline) fun σ H Q ⟨w, δ, μ, h⟩ => ⟨w, δ, μ, (At.bind h).mono fun x H1 ⟨w1, μ1, d, le, rd, h1⟩ => by
    split at h1
    · next hs =>
      obtain ⟨ys, hy⟩ := Option.isSome_iff_exists.mp hs
      obtain ⟨a, vs, rfl, h2, h3⟩ := lstX_rel h1.2.1 rd hy
      have h4 : At X.K X.mg S W (RelD X.K X.mg) σ Q w1 δ μ1 H1 (oOfM (gPop d [] μ1)) := h1
      obtain ⟨z, μ3, e, q⟩ := h4.optM
      exact ⟨.inl ⟨rfl, vs, .inl (.inl h2)⟩, pop_r ⟨w1, μ1, d, [], z, μ3, h1.2.1, rd, .nil, e, q⟩⟩
    · exact h1.2.2.elim⟩
end
end Kw

set_option Elab.async false
set_option linter.all false
set_option maxRecDepth 100000
namespace Kw
open PySem PySem.Spec PyProof.Rows L2

/-! ### statements -/
inductive SOut where
  | nx (δ : Sv) (μ : Mem)
  | ret (d : D) (μ : Mem)
  | bk (δ : Sv) (μ : Mem)
  | ct (δ : Sv) (μ : Mem)
  | exc (x : Xn) (δ : Sv) (μ : Mem)
  | stuck
abbrev SM := Sv → Mem → SOut
def Out.bindS {α : Type} (o : Out α) (δ : Sv) (k : α → Mem → SOut) : SOut := match o with
  | .ok a μ => k a μ
  | .exc x μ => .exc x δ μ
  | .stuck => .stuck
def SOut.then (o : SOut) (k : Sv → Mem → SOut) : SOut := match o with
  | .nx δ μ => k δ μ
  | o => o
section
variable (K : PySem.W.Frag) (mg : Str → Option Value) (S : SI) (W : WX)
/-- what is wanted behind a statement, by how it ends -/
def STo (D : Ends) (w : Wd) : SOut → Prop
  | .nx δ μ => ∀ w' σ H, w.Le w' → RelM K mg S.T w' μ H → RelSv K mg S w' δ σ → D.nx σ H
  | .ret d μ => ∀ w' v H, w.Le w' → RelM K mg S.T w' μ H → RelD K mg w' d v → D.rt v H
  | .bk δ μ => ∀ w' σ H, w.Le w' → RelM K mg S.T w' μ H → RelSv K mg S w' δ σ → D.bk σ H
  | .ct δ μ => ∀ w' σ H, w.Le w' → RelM K mg S.T w' μ H → RelSv K mg S w' δ σ → D.ct σ H
  | .exc x δ μ => ∀ w' cls dd σ H, w.Le w' → RelM K mg S.T w' μ H → RelSv K mg S w' δ σ → RelX K mg w' x cls dd → W cls dd σ H
  | .stuck => False
def tS (m : SM) : TS := fun D σ H => ∃ w δ μ, RelSv K mg S w δ σ ∧ RelM K mg S.T w μ H ∧ STo K mg S W D w (m δ μ)
/-- a target -/
abbrev GM := D → Sv → Mem → SOut
abbrev GsM := List D → Sv → Mem → SOut
def tG (m : GM) : TG := fun v σ H Q => ∃ D w δ μ d, RelSv K mg S w δ σ ∧ RelM K mg S.T w μ H ∧ RelD K mg w d v ∧ STo K mg S W D w (m d δ μ) ∧ ∀ σ H, D.nx σ H → Q σ H
def tGs (m : GsM) : TGs := fun vs σ H Q => ∃ D w δ μ ds, RelSv K mg S w δ σ ∧ RelM K mg S.T w μ H ∧ RelDs K mg w ds vs ∧ STo K mg S W D w (m ds δ μ) ∧ ∀ σ H, D.nx σ H → Q σ H
/-- what a for walks: the items, as they stand -/
def Walks (T : List (Addr × Str)) (w0 : Wd) (items : List D) (J : It) : Prop := ∀ w μ H i, w0.Lw w → RelM K mg T w μ H →
  (∀ d, items[i]? = some d → J.go i H ∧ ∀ x H', J.yld i H x H' → ∃ w1, w.Le w1 ∧ RelM K mg T w1 μ H' ∧ RelD K mg w1 d x) ∧ (items.length = i → J.stop i H)
abbrev IM := Sv → Mem → Out (List D)
def tI (m : IM) : TI := tM K mg S W (Walks K mg S.T) m
end
abbrev TSm (X : Cx) (S : SI) (W : WX) (m : SM) : TS := tS X.K X.mg S W m
abbrev TGm (X : Cx) (S : SI) (W : WX) (m : GM) : TG := tG X.K X.mg S W m
abbrev TGsm (X : Cx) (S : SI) (W : WX) (m : GsM) : TGs := tGs X.K X.mg S W m
abbrev TIm (X : Cx) (S : SI) (W : WX) (m : IM) : TI := tI X.K X.mg S W m
section
variable {K : PySem.W.Frag} {mg : Str → Option Value} {S : SI} {W : WX} {D D' : Ends} {w w' : Wd} {δ : Sv} {μ : Mem} {σ : L2.St} {H : Hp}
theorem STo.mono (le : w.Le w') {o : SOut} (h : STo K mg S W D w o) : STo K mg S W D w' o := by
  cases o with
  | nx δ μ => exact fun w2 σ H l => h w2 σ H (le.trans l)
  | ret d μ => exact fun w2 σ H l => h w2 σ H (le.trans l)
  | bk δ μ => exact fun w2 σ H l => h w2 σ H (le.trans l)
  | ct δ μ => exact fun w2 σ H l => h w2 σ H (le.trans l)
  | exc x δ μ => exact fun w2 c d σ H l => h w2 c d σ H (le.trans l)
  | stuck => exact h
theorem At.bindS {α β : Type} {R : Wd → α → β → Prop} {o : Out α} {k : α → Mem → SOut} (hs : RelSv K mg S w δ σ) (hm : RelM K mg S.T w μ H) (h : STo K mg S W D w (o.bindS δ k)) :
    At K mg S W R σ (fun v H1 => ∃ w1 μ1 d, w.Le w1 ∧ R w1 d v ∧ RelSv K mg S w1 δ σ ∧ RelM K mg S.T w1 μ1 H1 ∧ STo K mg S W D w1 (k d μ1)) w δ μ H o := by
  refine ⟨hs, hm, ?_⟩
  cases o with
  | ok a μ' => exact fun w1 v H1 le r rd => ⟨w1, μ', a, le, rd, hs.mono le, r, STo.mono le h⟩
  | exc x μ' => exact fun w1 c d H1 le r rx => h w1 c d σ H1 le r (hs.mono le) rx
  | stuck => exact h
end

/-! ### simple statements -/
def sNext : SM := fun δ μ => .nx δ μ
def sSeq (a b : SM) : SM := fun δ μ => (a δ μ).then b
def sRet (ma : EM) : SM := fun δ μ => (ma δ μ).bindS δ fun d μ1 => .ret d μ1
def sRetN : SM := fun _ μ => .ret .non μ
def sDrop (ma : EM) : SM := fun δ μ => (ma δ μ).bindS δ fun _ μ1 => .nx δ μ1
def sIf (mt : TM) (a b : SM) : SM := fun δ μ => (mt δ μ).bindS δ fun k μ1 => if k = true then a δ μ1 else b δ μ1
def sAsg (ma : EM) (g : GM) : SM := fun δ μ => (ma δ μ).bindS δ fun d μ1 => g d δ μ1
def gNm (i : Nat) : GM := fun d δ μ => .nx (δ.set i (some d)) μ
def gsNil : GsM := fun ds δ μ => match ds with
  | [] => .nx δ μ
  | _ => .stuck
def gsCons (g : GM) (gs : GsM) : GsM := fun ds δ μ => match ds with
  | d :: r => (g d δ μ).then (gs r)
  | [] => .stuck
def gSeq (n : Nat) (gs : GsM) : GM := fun d δ μ => match seqOf μ d with
  | some xs => if xs.length = n then gs xs δ μ else .stuck
  | none => .stuck
def sPar (i j : Nat) (ma : AM) : SM := fun δ μ => (ma δ μ).bindS δ fun ds μ1 => match ds with
  | [a, b] => .nx ((δ.set i (some a)).set j (some b)) μ1
  | _ => .stuck
def sAug (i : Nat) (g : D → D → Mem → Option D) (ma : EM) : SM := fun δ μ => match δ[i]? with
  | some (some x) => (ma δ μ).bindS δ fun y μ1 => match x with
    | .lam => .stuck
    | .exc _ _ => .stuck
    | x => match g x y μ1 with
      | some z => .nx (δ.set i (some z)) μ1
      | none => .stuck
  | _ => .stuck
def sBreak : SM := fun δ μ => .bk δ μ
def sCont : SM := fun δ μ => .ct δ μ
def sStop : SM := fun _ _ => .stuck
section
variable {X : Cx} {S : SI} {W : WX} {a b e tg iter c : Expr} {ma mo mi : EM} {mt : TM} {m m1 m2 : SM} {mg : GM} {mgs : GsM} {mr : AM} {pos p p' pos' : Pos} {x y : Str} {i j n k : Nat} {st : Stmt} {rest body : List Stmt} {es : List Expr}
theorem PGi {e : Expr} {t t' : TG} (h : PG X e t') (i : ∀ v σ H Q, t v σ H Q → t' v σ H Q) : PG X e t := ⟨fun pins s σ H v u Q I r q => h.run pins s σ H v u Q I r (i _ _ _ _ q)⟩
theorem PGsi {e : List Expr} {t t' : TGs} (h : PGs X e t') (i : ∀ v σ H Q, t v σ H Q → t' v σ H Q) : PGs X e t := ⟨fun pins s σ H v u Q I r q => h.run pins s σ H v u Q I r (i _ _ _ _ q)⟩
theorem PGor {e : Expr} {t t' : TG} (h : PG X e t) (h' : PG X e t') : PG X e (fun v σ H Q => t v σ H Q ∨ t' v σ H Q) := ⟨fun pins s σ H v u Q I r q => q.elim (h.run pins s σ H v u Q I r) (h'.run pins s σ H v u Q I r)⟩
theorem pss_nil' : PSs X [] (TSm X S W sNext) := PSsi pss_nil fun D σ H ⟨w, δ, μ, rs, rm, h⟩ => h w σ H (Wd.Le.refl _) rm rs
theorem STo.seq {D : Ends} {w : Wd} {o : SOut} {k : SM} (h : STo X.K X.mg S W D w (o.then k)) : STo X.K X.mg S W { D with nx := TSm X S W k D } w o := by
  cases o with
  | nx δ μ => exact fun w' σ H le rm rs => ⟨w', δ, μ, rs, rm, STo.mono le h⟩
  | _ => exact h
theorem pss_cons' (h1 : PS X st (TSm X S W m1)) (h2 : PSs X rest (TSm X S W m2)) : PSs X (st :: rest) (TSm X S W <| sSeq m1 m2) := PSsi (pss_cons h1 h2) fun D σ H ⟨w, δ, μ, rs, rm, h⟩ => ⟨w, δ, μ, rs, rm, h.seq⟩
theorem pss_one' (h1 : PS X st (TSm X S W m1)) : PSs X [st] (TSm X S W m1) := pss_one h1
theorem ps_ret' (ha : PE X a (TEm X S W ma)) : PS X (.Return (some a) pos) (TSm X S W <| sRet ma) := PSi (ps_ret ha) fun D σ H ⟨w, δ, μ, rs, rm, h⟩ => ⟨w, δ, μ, (At.bindS rs rm h).mono fun v H1 ⟨w1, μ1, d, le, rd, rs1, rm1, q⟩ => q w1 v H1 (Wd.Le.refl _) rm1 rd⟩
theorem ps_retN' : PS X (.Return none pos) (TSm X S W sRetN) := PSi ps_retN fun D σ H ⟨w, δ, μ, rs, rm, h⟩ => h w _ H (Wd.Le.refl _) rm .non
theorem ps_pass' : PS X (.Pass pos) (TSm X S W sNext) := PSi ps_pass fun D σ H ⟨w, δ, μ, rs, rm, h⟩ => h w σ H (Wd.Le.refl _) rm rs
theorem ps_break' : PS X (.Break pos) (TSm X S W sBreak) := PSi ps_break fun D σ H ⟨w, δ, μ, rs, rm, h⟩ => h w σ H (Wd.Le.refl _) rm rs
theorem ps_cont' : PS X (.Continue pos) (TSm X S W sCont) := PSi ps_continue fun D σ H ⟨w, δ, μ, rs, rm, h⟩ => h w σ H (Wd.Le.refl _) rm rs
theorem ps_stop' : PS X st (TSm X S W sStop) := PSi ps_never fun D σ H ⟨w, δ, μ, rs, rm, h⟩ => h
theorem ps_expr' (ha : PE X a (TEm X S W ma)) (hs : swapsWith a none pos.line X.env = pure false := by rfl) : PS X (.Expr a pos) (TSm X S W <| sDrop ma) := PSi (ps_expr ha hs) fun D σ H ⟨w, δ, μ, rs, rm, h⟩ => ⟨w, δ, μ, (At.bindS rs rm h).mono fun v H1 ⟨w1, μ1, d, le, rd, rs1, rm1, q⟩ => q w1 σ H1 (Wd.Le.refl _) rm1 rs1⟩
theorem ps_if' {b' : List Stmt} (hc : PT X c (TTm X S W mt)) (h1 : PSs X body (TSm X S W m1)) (h2 : PSs X b' (TSm X S W m2)) : PS X (.If c body b' pos) (TSm X S W <| sIf mt m1 m2) := PSi (ps_if hc h1 h2) fun D σ H ⟨w, δ, μ, rs, rm, h⟩ => ⟨w, δ, μ, (At.bindS rs rm h).mono fun v H1 ⟨w1, μ1, d, le, rd, rs1, rm1, q⟩ => by
  cases rd
  split
  · next hv => rw [if_pos hv] at q; exact ⟨w1, δ, μ1, rs1, rm1, q⟩
  · next hv => rw [if_neg hv] at q; exact ⟨w1, δ, μ1, rs1, rm1, q⟩⟩
theorem ps_asg' (he : PE X e (TEm X S W ma)) (hg : PG X tg (TGm X S W mg)) (hs : swapsWithSole [tg] e pos.line X.env = pure false := by rfl) (hw : swappedStores [tg] e X.env = pure none := by rfl)
    (h1 : (assignEach [tg] X.env).map (·.2) = [assign tg X.env] := by rfl) : PS X (.Assign [tg] e pos) (TSm X S W <| sAsg ma mg) := PSi (ps_asg he hg hs hw h1) fun D σ H ⟨w, δ, μ, rs, rm, h⟩ => ⟨w, δ, μ, (At.bindS rs rm h).mono fun v H1 ⟨w1, μ1, d, le, rd, rs1, rm1, q⟩ => ⟨D, w1, δ, μ1, d, rs1, rm1, rd, q, fun _ _ q => q⟩⟩
theorem ps_set' (hN : X.N.Nodup) (hi : X.N[i]? = some x) (hx : Loc X.env.scope x) (he : PE X e (TEm X S W ma)) (hs : swapsWith e (some (.Name x pos')) pos.line X.env = pure false := by rfl) (hf : X.fn x = true ∨ X.env.scope.names.lookup x = some .local := by first | exact .inl rfl | exact .inr rfl | assumption) :
    PS X (.Assign [.Name x pos'] e pos) (TSm X S W <| sAsg ma (gNm i)) := PSi (ps_set hN hi hx he hs hf) fun D σ H ⟨w, δ, μ, rs, rm, h⟩ => ⟨w, δ, μ, (At.bindS rs rm h).mono fun v H1 ⟨w1, μ1, d, le, rd, rs1, rm1, q⟩ => q w1 _ H1 (Wd.Le.refl _) rm1 (rs1.set i rd)⟩
theorem pg_name' (hN : X.N.Nodup) (hi : X.N[i]? = some x) (hx : Loc X.env.scope x) (hf : X.fn x = true ∨ X.env.scope.names.lookup x = some .local := by first | exact .inl rfl | exact .inr rfl | assumption) : PG X (.Name x pos) (TGm X S W <| gNm i) :=
  PGi (pg_name hN hi hx hf) fun v σ H Q ⟨D, w, δ, μ, d, rs, rm, rd, q, hq⟩ => hq _ _ (q w _ H (Wd.Le.refl _) rm (rs.set i rd))
theorem pgs_nil' : PGs X [] (TGsm X S W gsNil) := PGsi pgs_nil fun v σ H Q ⟨D, w, δ, μ, d, rs, rm, rd, q, hq⟩ => by
  unfold gsNil at q
  split at q
  · cases rd
    exact ⟨rfl, hq _ _ (q w _ H (Wd.Le.refl _) rm rs)⟩
  · exact q.elim
theorem pgs_cons' (h1 : PG X e (TGm X S W mg)) (h2 : PGs X es (TGsm X S W mgs)) (hs : (assignEach (e :: es) X.env).map (·.2) = assign e X.env :: (assignEach es X.env).map (·.2) := by rfl) : PGs X (e :: es) (TGsm X S W <| gsCons mg mgs) :=
  PGsi (pgs_cons h1 h2 hs) fun v σ H Q ⟨D, w, δ, μ, ds, rs, rm, rd, q, hq⟩ => by
    unfold gsCons at q
    split at q
    · next d r =>
      cases rd with
      | @cons _ _ u us r1 r2 =>
        refine ⟨u, us, rfl, { D with nx := fun σ' H' => TGsm X S W mgs us σ' H' Q }, w, δ, μ, d, rs, rm, r1, ?_, fun _ _ q => q⟩
        generalize mg d δ μ = o at q
        cases o with
        | nx δ' μ' => exact fun w' σ' H' le rm' rs' => ⟨D, w', δ', μ', r, rs', rm', RelDs.mono le r2, STo.mono le q, hq⟩
        | _ => exact q
    · exact q.elim
theorem pg_seq' {kk : Nat} (hc : X.calm = true) (h : PGs X es (TGsm X S W mgs)) (hn : (assignEach es X.env).length = n := by rfl) (hst : (assignEach es X.env).findIdx? (·.1) = none := by rfl) : PG X (.Tuple es kk pos) (TGm X S W <| gSeq n mgs) :=
  PGi (PGor (pg_tup hc h hn hst) (pg_unl hc h hn hst)) fun v σ H Q ⟨D, w, δ, μ, d, rs, rm, rd, q, hq⟩ => by
    unfold gSeq at q
    split at q
    · next xs hx =>
      split at q
      · next hl =>
        obtain ⟨a, vs, h1, h2, h3⟩ := seqOf_rel rm rd hx
        rcases h2 with h2 | h2
        · exact .inr ⟨a, vs, h1, h2, by rw [← h3.length]; exact hl, D, w, δ, μ, xs, rs, rm, h3, q, hq⟩
        · exact .inl ⟨a, vs, h1, h2, by rw [← h3.length]; exact hl, D, w, δ, μ, xs, rs, rm, h3, q, hq⟩
      · exact q.elim
    · exact q.elim
theorem ps_par' {px py pt : Pos} {kt k2 pt2} (hc : X.calm = true) (hN : X.N.Nodup) (hi : X.N[i]? = some x) (hj : X.N[j]? = some y) (hij : i ≠ j)
    (hx : X.env.scope.names.lookup x = some .local) (hy : X.env.scope.names.lookup y = some .local) (ha : PA X [a, b] (TAm X S W mr))
    (hw : swappedStores [.Tuple [.Name x px, .Name y py] kt pt] (.Tuple [a, b] k2 pt2) X.env = pure (some [x, y]))
    (hs : swapsWithSole [.Tuple [.Name x px, .Name y py] kt pt] (.Tuple [a, b] k2 pt2) pos.line X.env = pure false := by rfl) :
    PS X (.Assign [.Tuple [.Name x px, .Name y py] kt pt] (.Tuple [a, b] k2 pt2) pos) (TSm X S W <| sPar i j mr) :=
  PSi (ps_par hc hN hi hj hij hx hy ha hw hs) fun D σ H ⟨w, δ, μ, rs, rm, h⟩ => ⟨w, δ, μ, (At.bindS rs rm h).mono fun v H1 ⟨w1, μ1, d, le, rd, rs1, rm1, q⟩ => by
    split at q
    · obtain ⟨v1, v2, rfl, r1, r2⟩ := rd.two2
      exact ⟨v1, v2, rfl, q w1 _ H1 (Wd.Le.refl _) rm1 ((rs1.set i r1).set j r2)⟩
    · exact q.elim⟩
theorem ps_aug' {op : Operator} {r : R2} {g : D → D → Mem → Option D} (ho : OpR X (inplaceOp op) r) (hr : ∀ x y H Q, rD2 X.K X.mg S.T g x y H Q → r x y H Q) (hN : X.N.Nodup) (hi : X.N[i]? = some x) (hx : Loc X.env.scope x) (he : PE X e (TEm X S W ma))
    (hf : X.fn x = true ∨ X.env.scope.names.lookup x = some .local := by first | exact .inl rfl | exact .inr rfl | assumption) : PS X (.AugAssign (.Name x pos') op e pos) (TSm X S W <| sAug i g ma) :=
  PSi (ps_aug hN hi hx he (ti := r) (fun pins s σ H x y v u Q I rx ry q => ho pins s σ H x y v u Q I rx ry q) hf) fun D σ H ⟨w, δ, μ, rs, rm, h⟩ => by
    unfold sAug at h
    split at h
    · next d hd =>
      obtain ⟨v, hv, rv⟩ := rs.2 i d hd
      refine ⟨v, hv, w, δ, μ, (At.bindS rs rm h).mono fun u H1 ⟨w1, μ1, d1, le, rd, rs1, rm1, q⟩ => ?_⟩
      split at q
      · exact q.elim
      · exact q.elim
      · next n1 n2 =>
        split at q
        · next z hz =>
          have rx : RelD X.K X.mg w d v := by
            cases d with
            | lam => exact absurd rfl n1
            | exc c fs => exact absurd rfl (n2 c fs)
            | _ => exact rv
          exact hr _ _ _ _ ⟨w1, μ1, d, d1, z, rm1, rx.mono le, rd, hz, fun w2 v2 H2 le2 rm2 rd2 => q w2 _ H2 le2 rm2 ((rs1.mono le2).set i rd2)⟩
        · exact q.elim
    · exact h.elim
end
end Kw

set_option Elab.async false
set_option linter.all false
set_option maxRecDepth 100000
namespace Kw
open PySem PySem.Spec PyProof.Rows L2

/-! ### loops -/
def loopS (g : GM) (b : SM) : List D → SM
  | [], δ, μ => .nx δ μ
  | d :: ds, δ, μ => match g d δ μ with
    | .nx δ1 μ1 => match b δ1 μ1 with
      | .nx δ2 μ2 => loopS g b ds δ2 μ2
      | .ct δ2 μ2 => loopS g b ds δ2 μ2
      | .bk δ2 μ2 => .nx δ2 μ2
      | .ret v μ2 => .ret v μ2
      | .exc x δ2 μ2 => .exc x δ2 μ2
      | .stuck => .stuck
    | .exc x δ2 μ2 => .exc x δ2 μ2
    | _ => .stuck
def sFor (mi : IM) (g : GM) (b : SM) : SM := fun δ μ => (mi δ μ).bindS δ fun items μ1 => loopS g b items δ μ1
def whileS (c : TM) (b : SM) : Nat → SM
  | 0, _, _ => .stuck
  | n + 1, δ, μ => (c δ μ).bindS δ fun k μ1 => if k = true then match b δ μ1 with
      | .nx δ2 μ2 => whileS c b n δ2 μ2
      | .ct δ2 μ2 => whileS c b n δ2 μ2
      | .bk δ2 μ2 => .nx δ2 μ2
      | .ret v μ2 => .ret v μ2
      | .exc x δ2 μ2 => .exc x δ2 μ2
      | .stuck => .stuck
    else .nx δ μ1
def sWhile (fuel : Sv → Mem → Nat) (c : TM) (b : SM) : SM := fun δ μ => whileS c b (fuel δ μ) δ μ

section
variable {X : Cx} {S : SI} {W : WX} {a b e tg iter c : Expr} {ma : EM} {mt : TM} {m m1 m2 : SM} {g : GM} {mr : AM} {mi : IM} {pos p : Pos} {body : List Stmt} {es : List Expr}
theorem ps_for' (hp : PassesOwn (model X.prog X.w) X.A X.env X.xe) (hc : X.calm = true) (hi : PI X tg iter (TIm X S W mi)) (hg : PG X tg (TGm X S W g)) (hb : PSs X body (TSm X S W m))
    (hs : ∀ x, foldedSetIterable iter X.env x = pure x := by intro _; rfl) : PS X (.For tg iter body [] pos) (TSm X S W <| sFor mi g m) :=
  PSi (ps_for hp hc hi hg hb hs) fun D σ H ⟨w, δ, μ, rs, rm, h⟩ => ⟨w, δ, μ, (At.bindS rs rm h).mono fun J H1 ⟨w1, μ1, items, le1, wk, rs1, rm1, q⟩ => by
    refine ⟨fun i n σ H => n + i = items.length ∧ ∃ w δ μ, w1.Le w ∧ RelSv X.K X.mg S w δ σ ∧ RelM X.K X.mg S.T w μ H ∧ STo X.K X.mg S W D w (loopS g m (items.drop i) δ μ), ⟨items.length, rfl, w1, δ, μ1, Wd.Le.refl _, rs1, rm1, q⟩, ?_⟩
    intro i n σ H ⟨hn, w2, δ2, μ2, le2, rs2, rm2, q2⟩
    obtain ⟨k1, k2⟩ := wk w2 μ2 H i le2.lw rm2
    by_cases hi : i < items.length
    · right
      have hd : items[i]? = some items[i] := List.getElem?_eq_getElem hi
      obtain ⟨go, yl⟩ := k1 _ hd
      rw [List.drop_eq_getElem_cons hi] at q2
      refine ⟨go, fun σ' H' => ∃ w δ μ, w1.Le w ∧ RelSv X.K X.mg S w δ σ' ∧ RelM X.K X.mg S.T w μ H' ∧ STo X.K X.mg S W D w (loopS g m (items.drop (i + 1)) δ μ), fun σ' H' hN => ⟨items.length - (i + 1), by omega, by omega, hN⟩, fun x H' hy => ?_⟩
      obtain ⟨w3, le3, rm3, rd⟩ := yl x H' hy
      have q3 := STo.mono le3 q2
      generalize items[i] = d at q3 rd
      unfold loopS at q3
      refine ⟨{ D with nx := fun σ' H' => TSm X S W m { D with nx := fun σ' H' => ∃ w δ μ, w1.Le w ∧ RelSv X.K X.mg S w δ σ' ∧ RelM X.K X.mg S.T w μ H' ∧ STo X.K X.mg S W D w (loopS g m (items.drop (i + 1)) δ μ), ct := fun σ' H' => ∃ w δ μ, w1.Le w ∧ RelSv X.K X.mg S w δ σ' ∧ RelM X.K X.mg S.T w μ H' ∧ STo X.K X.mg S W D w (loopS g m (items.drop (i + 1)) δ μ), bk := D.nx } σ' H' }, w3, δ2, μ2, d, rs2.mono le3, rm3, rd, ?_, fun _ _ q => q⟩
      generalize g d δ2 μ2 = o at q3
      cases o with
      | nx δ3 μ3 =>
        intro w4 σ4 H4 le4 rm4 rs4
        refine ⟨w4, δ3, μ3, rs4, rm4, ?_⟩
        have q4 := STo.mono le4 q3
        have l14 := (le2.trans le3).trans le4
        show STo X.K X.mg S W _ w4 (m δ3 μ3)
        simp only at q4
        generalize m δ3 μ3 = o at q4
        cases o with
        | nx δ5 μ5 => exact fun w5 σ5 H5 le5 rm5 rs5 => ⟨w5, δ5, μ5, l14.trans le5, rs5, rm5, STo.mono le5 q4⟩
        | ct δ5 μ5 => exact fun w5 σ5 H5 le5 rm5 rs5 => ⟨w5, δ5, μ5, l14.trans le5, rs5, rm5, STo.mono le5 q4⟩
        | bk δ5 μ5 => exact q4
        | ret v μ5 => exact q4
        | exc x δ5 μ5 => exact q4
        | stuck => exact q4
      | exc x δ3 μ3 => exact q3
      | _ => exact q3.elim
    · left
      rw [List.drop_eq_nil_of_le (by omega)] at q2
      exact ⟨k2 (by omega), q2 w2 σ H (Wd.Le.refl _) rm2 rs2⟩⟩
theorem ps_while' {fuel : Sv → Mem → Nat} (hp : PassesOwn (model X.prog X.w) X.A X.env X.xe) (hc : PT X c (TTm X S W mt)) (hb : PSs X body (TSm X S W m)) : PS X (.While c body [] pos) (TSm X S W <| sWhile fuel mt m) :=
  PSi (ps_while hp hc hb) fun D σ H ⟨w, δ, μ, rs, rm, h⟩ => by
    refine ⟨fun n σ H => ∃ w δ μ, RelSv X.K X.mg S w δ σ ∧ RelM X.K X.mg S.T w μ H ∧ STo X.K X.mg S W D w (whileS mt m n δ μ), ⟨fuel δ μ, w, δ, μ, rs, rm, h⟩, ?_⟩
    intro n σ H ⟨w1, δ1, μ1, rs1, rm1, q1⟩
    cases n with
    | zero => exact q1.elim
    | succ n =>
      refine ⟨w1, δ1, μ1, (At.bindS rs1 rm1 q1).mono fun v H2 ⟨w2, μ2, k, le2, rk, rs2, rm2, q2⟩ => ?_⟩
      cases rk
      split
      · next hk =>
        rw [if_pos hk] at q2
        refine ⟨fun σ' H' => ∃ w δ μ, RelSv X.K X.mg S w δ σ' ∧ RelM X.K X.mg S.T w μ H' ∧ STo X.K X.mg S W D w (whileS mt m n δ μ), fun σ' H' hN => ⟨n, Nat.lt_succ_self n, hN⟩, w2, δ1, μ2, rs2, rm2, ?_⟩
        generalize m δ1 μ2 = o at q2
        cases o with
        | nx δ5 μ5 => exact fun w5 σ5 H5 le5 rm5 rs5 => ⟨w5, δ5, μ5, rs5, rm5, STo.mono le5 q2⟩
        | ct δ5 μ5 => exact fun w5 σ5 H5 le5 rm5 rs5 => ⟨w5, δ5, μ5, rs5, rm5, STo.mono le5 q2⟩
        | bk δ5 μ5 => exact q2
        | ret v μ5 => exact q2
        | exc x δ5 μ5 => exact q2
        | stuck => exact q2
      · next hk =>
        rw [if_neg hk] at q2
        exact q2 w2 _ H2 (Wd.Le.refl _) rm2 rs2
/-! ### what a for walks -/
/-- the items of what never changes -/
def seqV : D → Option (List D)
  | .tup xs => some xs
  | .lst xs => some xs
  | .scr xs => some xs
  | _ => none
def iSeq (ma : EM) : IM := fun δ μ => (ma δ μ).bind fun x μ1 => match seqV x with
  | some xs => .ok xs μ1
  | none => .stuck
def iRange1 (mr : AM) : IM := fun δ μ => (mr δ μ).bind fun xs μ1 => match xs with
  | [.int j] => if -4611686018427387904 ≤ j ∧ j < 4611686018427387904 then .ok ((List.range j.toNat).map fun (k : Nat) => .int (k : Int)) μ1 else .stuck
  | _ => .stuck
def iRange2 (mr : AM) : IM := fun δ μ => (mr δ μ).bind fun xs μ1 => match xs with
  | [.int i, .int j] => if (-4611686018427387904 ≤ i ∧ i < 4611686018427387904) ∧ -4611686018427387904 ≤ j ∧ j < 4611686018427387904 then .ok ((List.range (j - i).toNat).map fun (k : Nat) => .int (i + (k : Int))) μ1 else .stuck
  | _ => .stuck
theorem PIi {t t' : TI} (h : PI X tg iter t') (i : ∀ σ H Q, t σ H Q → t' σ H Q) : PI X tg iter t := ⟨fun pins s σ H R I q => h.run pins s σ H R I (i _ _ _ q)⟩
theorem PIor {t t' : TI} (h : PI X tg iter t) (h' : PI X tg iter t') : PI X tg iter (fun σ H Q => t σ H Q ∨ t' σ H Q) := ⟨fun pins s σ H R I q => q.elim (h.run pins s σ H R I) (h'.run pins s σ H R I)⟩
section
variable {K : PySem.W.Frag} {mg : Str → Option Value} {T : List (Addr × Str)} {w0 : Wd}
theorem walks_rng {i : Int} {n : Nat} : Walks K mg T w0 ((List.range n).map fun (k : Nat) => .int (i + (k : Int))) (Itr i n) := fun w μ H k le rm => by
  refine ⟨fun d hd => ?_, fun hk => by simp at hk; exact Nat.le_of_eq hk⟩
  have hk : k < n := by
    have := (List.getElem?_eq_some_iff.mp hd).1
    simpa using this
  refine ⟨hk, fun x H' ⟨e, ex⟩ => ⟨w, Wd.Le.refl _, e ▸ rm, ?_⟩⟩
  rw [List.getElem?_map, List.getElem?_range hk] at hd
  cases hd
  subst ex
  exact .int _
theorem walks_lst {a : Addr} {vs : List V} {ds : List D} (hs : SqL K w0.φ a vs ∨ w0.fr a = some (.lst vs)) (hr : RelDs K mg w0 ds vs) : Walks K mg T w0 ds (Itl K a) := fun w μ H k le rm => by
  have hH : SqL K H a vs := scr_H rm (hs.elim (fun h => .inl (sqL_mono le.φ h)) fun h => .inr (by rw [le.fr]; exact h))
  refine ⟨fun d hd => ?_, fun hk => ⟨vs, hH, by rw [← hr.length]; exact Nat.le_of_eq hk⟩⟩
  obtain ⟨v, hv, rv⟩ := hr.get hd
  refine ⟨⟨vs, v, hH, hv⟩, fun x H' ⟨e, ex⟩ => ⟨w, Wd.Le.refl _, e ▸ rm, ?_⟩⟩
  have := ex vs hH
  rw [hv] at this
  cases this
  exact rv.monoW le
theorem walks_tup {a : Addr} {vs : List V} {ds : List D} (hs : SqT K w0.φ a vs) (hr : RelDs K mg w0 ds vs) : Walks K mg T w0 ds (Itt K a) := fun w μ H k le rm => by
  have hH : SqT K H a vs := sqT_mono rm.φ (sqT_mono le.φ hs)
  refine ⟨fun d hd => ?_, fun hk => ⟨vs, hH, by rw [← hr.length]; exact Nat.le_of_eq hk⟩⟩
  obtain ⟨v, hv, rv⟩ := hr.get hd
  refine ⟨⟨vs, v, hH, hv⟩, fun x H' ⟨e, ex⟩ => ⟨w, Wd.Le.refl _, e ▸ rm, ?_⟩⟩
  have := ex vs hH
  rw [hv] at this
  cases this
  exact rv.monoW le
end
theorem pi_seq' (ha : PE X a (TEm X S W ma)) : PI X tg a (TIm X S W <| iSeq ma) := PIi (PIor (pi_list ha) (pi_tup ha)) fun σ H R ⟨w, δ, μ, h⟩ => by
  have h3 := h.2.2
  unfold iSeq at h3
  cases e : ma δ μ with
  | stuck => rw [e] at h3; exact h3.elim
  | exc x μ' => rw [e] at h3; exact .inl ⟨w, δ, μ, h.1, h.2.1, by rw [e]; exact h3⟩
  | ok d μ' =>
    rw [e] at h3
    cases d with
    | tup xs =>
      refine .inr ⟨w, δ, μ, h.1, h.2.1, ?_⟩
      rw [e]
      intro w' v H' le rm rd
      cases rd with
      | @tup b vs ds e rs => exact ⟨b, rfl, ⟨vs, sqT_mono rm.φ e⟩, h3 w' _ H' le rm (walks_tup e rs)⟩
    | lst xs =>
      refine .inl ⟨w, δ, μ, h.1, h.2.1, ?_⟩
      rw [e]
      intro w' v H' le rm rd
      cases rd with
      | @lst b vs ds e rs => exact ⟨b, rfl, ⟨vs, .inl (.inl (rm.φ _ _ e))⟩, h3 w' _ H' le rm (walks_lst (.inl (.inl (.inl e))) rs)⟩
    | scr xs =>
      refine .inl ⟨w, δ, μ, h.1, h.2.1, ?_⟩
      rw [e]
      intro w' v H' le rm rd
      cases rd with
      | @scr b vs ds e rs => exact ⟨b, rfl, ⟨vs, scr_H rm e⟩, h3 w' _ H' le rm (walks_lst e rs)⟩
    | _ => exact h3.elim
theorem pi_range1' (hg : Gl X "range") (hm : X.mg "range" = none) (ha : PA X [a] (TAm X S W mr)) (hs : starEach [a] X.env = [(false, eval a X.env)] := by rfl) : PI X tg (.Call (.Name "range" p) [a] [] pos) (TIm X S W <| iRange1 mr) :=
  PIi (pi_range1 hg hm ha hs) fun σ H R ⟨w, δ, μ, h⟩ => ⟨w, δ, μ, (At.bind h).mono fun v H1 ⟨w1, μ1, d, le, rd, h1⟩ => by
    split at h1
    · next j =>
      obtain ⟨x, rfl, rx⟩ := rd.one1
      cases rx
      split at h1
      · next hj =>
        refine ⟨j, rfl, by omega, by omega, h1.2.2 w1 _ H1 (Wd.Le.refl _) h1.2.1 ?_⟩
        have := walks_rng (K := X.K) (mg := X.mg) (T := S.T) (w0 := w1) (i := 0) (n := j.toNat)
        simpa using this
      · exact h1.2.2.elim
    · exact h1.2.2.elim⟩
theorem pi_range2' (hg : Gl X "range") (hm : X.mg "range" = none) (ha : PA X [a, b] (TAm X S W mr)) (hs : starEach [a, b] X.env = [(false, eval a X.env), (false, eval b X.env)] := by rfl) (hs2 : starEach [b] X.env = [(false, eval b X.env)] := by rfl) :
    PI X tg (.Call (.Name "range" p) [a, b] [] pos) (TIm X S W <| iRange2 mr) :=
  PIi (pi_range2 hg hm ha hs hs2) fun σ H R ⟨w, δ, μ, h⟩ => ⟨w, δ, μ, (At.bind h).mono fun v H1 ⟨w1, μ1, d, le, rd, h1⟩ => by
    split at h1
    · next i j =>
      obtain ⟨x, y, rfl, rx, ry⟩ := rd.two2
      cases rx; cases ry
      split at h1
      · next hj => exact ⟨i, j, rfl, ⟨by omega, by omega, by omega, by omega⟩, h1.2.2 w1 _ H1 (Wd.Le.refl _) h1.2.1 walks_rng⟩
      · exact h1.2.2.elim
    · exact h1.2.2.elim⟩
end
end Kw

set_option Elab.async false
set_option linter.all false
set_option maxRecDepth 100000
namespace Kw
open PySem PySem.Spec PyProof.Rows L2

/-! ### slots forgotten -/
def wipeD (δ : Sv) : List Nat → Sv
  | [] => δ
  | v :: vs => (wipeD δ vs).set v none
theorem wipeD_length (δ : Sv) : ∀ vs : List Nat, (wipeD δ vs).length = δ.length
  | [] => rfl
  | v :: vs => by unfold wipeD; rw [List.length_set, wipeD_length δ vs]
theorem wipe_get (σ : L2.St) : ∀ (vs : List Nat) (i : Nat), i ∉ vs → (wipe σ vs)[i]? = σ[i]?
  | [], i, _ => rfl
  | v :: vs, i, h => by
    unfold wipe
    rw [List.getElem?_set_ne (fun e => h (by rw [e]; exact List.mem_cons_self)), wipe_get σ vs i fun hi => h (List.mem_cons_of_mem _ hi)]
theorem wipe_in (σ : L2.St) : ∀ (vs : List Nat) (i : Nat), i ∈ vs → i < σ.length → (wipe σ vs)[i]? = some none
  | v :: vs, i, h, hl => by
    unfold wipe
    by_cases e : v = i
    · subst e
      rw [List.getElem?_set_self (by rw [wipe_length]; exact hl)]
    · rw [List.getElem?_set_ne e]
      exact wipe_in σ vs i ((List.mem_cons.mp h).resolve_left fun z => e z.symm) hl
theorem wipe_eq {σ τ : L2.St} {vs : List Nat} (hl : σ.length = τ.length) (h : ∀ i, i ∉ vs → σ[i]? = τ[i]?) : wipe σ vs = wipe τ vs := by
  refine List.ext_getElem? fun i => ?_
  by_cases hi : i ∈ vs
  · by_cases hn : i < σ.length
    · rw [wipe_in σ vs i hi hn, wipe_in τ vs i hi (by omega)]
    · rw [List.getElem?_eq_none (by rw [wipe_length]; omega), List.getElem?_eq_none (by rw [wipe_length]; omega)]
  · rw [wipe_get σ vs i hi, wipe_get τ vs i hi, h i hi]
theorem wipe_set {σ : L2.St} {vs : List Nat} {i : Nat} (hi : i ∈ vs) (v : Option V) : wipe (σ.set i v) vs = wipe σ vs :=
  wipe_eq (List.length_set ..) fun j hj => List.getElem?_set_ne fun e => hj (by rw [← e]; exact hi)
theorem wipe_wipe (σ : L2.St) (vs : List Nat) : wipe (wipe σ vs) vs = wipe σ vs := wipe_eq (wipe_length ..) fun j hj => wipe_get σ vs j hj
theorem RelSv.forget {K : PySem.W.Frag} {mg : Str → Option Value} {S : SI} {w : Wd} {δ : Sv} {σ : L2.St} (h : RelSv K mg S w δ σ) (i : Nat) : RelSv K mg S w (δ.set i Option.none) (σ.set i Option.none) := by
  refine ⟨by simp [h.1], fun j e he => ?_⟩
  by_cases hj : i = j
  · subst hj
    by_cases hl : i < δ.length
    · rw [List.getElem?_set_self hl] at he
      cases he
    · rw [List.getElem?_eq_none (by simpa using hl)] at he
      cases he
  · rw [List.getElem?_set_ne hj] at he
    rw [List.getElem?_set_ne hj]
    exact h.2 j e he
theorem RelSv.wipe {K : PySem.W.Frag} {mg : Str → Option Value} {S : SI} {w : Wd} {δ : Sv} {σ : L2.St} (h : RelSv K mg S w δ σ) : ∀ vs : List Nat, RelSv K mg S w (wipeD δ vs) (L2.wipe σ vs)
  | [] => h
  | v :: vs => (RelSv.wipe h vs).forget v

/-! ### targets that are names -/
/-- a target that stores into the slots vs alone, by values and by data -/
def NmTg (K : PySem.W.Frag) (mg : Str → Option Value) (S : SI) (vs : List Nat) (gV : TG) (g : GM) : Prop := ∀ w δ μ d v (σ : L2.St) H Q δ' μ', RelSv K mg S w δ σ → RelM K mg S.T w μ H → RelD K mg w d v → g d δ μ = .nx δ' μ' →
  (∀ σ', RelSv K mg S w δ' σ' → L2.wipe σ' vs = L2.wipe σ vs → μ' = μ → Q σ' H) → gV v σ H Q
def NmTgs (K : PySem.W.Frag) (mg : Str → Option Value) (S : SI) (vs : List Nat) (gV : TGs) (g : GsM) : Prop := ∀ w δ μ d v (σ : L2.St) H Q δ' μ', RelSv K mg S w δ σ → RelM K mg S.T w μ H → RelDs K mg w d v → g d δ μ = .nx δ' μ' →
  (∀ σ', RelSv K mg S w δ' σ' → L2.wipe σ' vs = L2.wipe σ vs → μ' = μ → Q σ' H) → gV v σ H Q
section
variable {K : PySem.W.Frag} {mg : Str → Option Value} {S : SI} {vs : List Nat}
theorem nmTg {i : Nat} (hi : i ∈ vs) : NmTg K mg S vs (gName i) (gNm i) := fun w δ μ d v σ H Q δ' μ' rs rm rd e h => by
  cases e
  exact h _ (rs.set i rd) (wipe_set hi _) rfl
theorem nmTgs_nil : NmTgs K mg S vs gNil gsNil := fun w δ μ d v σ H Q δ' μ' rs rm rd e h => by
  unfold gsNil at e
  split at e
  · cases rd; cases e
    exact ⟨rfl, h _ rs rfl rfl⟩
  · cases e
theorem nmTgs_cons {i : Nat} (hi : i ∈ vs) {gV : TGs} {g : GsM} (h2 : NmTgs K mg S vs gV g) : NmTgs K mg S vs (gCons (gName i) gV) (gsCons (gNm i) g) := fun w δ μ d v σ H Q δ' μ' rs rm rd e h => by
  unfold gsCons at e
  split at e
  · cases rd with
    | @cons d ds u us r1 r2 =>
      refine ⟨u, us, rfl, h2 w _ μ _ _ _ H Q δ' μ' (rs.set i r1) rm r2 e fun σ' a b c => h σ' a (b.trans (wipe_set hi _)) c⟩
  · cases e
theorem nmTg_seq {n : Nat} {gV : TGs} {g : GsM} (h2 : NmTgs K mg S vs gV g) : NmTg K mg S vs (fun v σ H Q => gTup K n gV v σ H Q ∨ gUnl K n gV v σ H Q) (gSeq n g) := fun w δ μ d v σ H Q δ' μ' rs rm rd e h => by
  unfold gSeq at e
  split at e
  · next xs hx =>
    split at e
    · next hl =>
      obtain ⟨a, us, h1, h3, h4⟩ := seqOf_rel rm rd hx
      rcases h3 with h3 | h3
      · exact .inr ⟨a, us, h1, h3, by rw [← h4.length]; exact hl, h2 w δ μ _ _ σ H Q δ' μ' rs rm h4 e h⟩
      · exact .inl ⟨a, us, h1, h3, by rw [← h4.length]; exact hl, h2 w δ μ _ _ σ H Q δ' μ' rs rm h4 e h⟩
    · cases e
  · cases e
end

/-! ### a list made by a comprehension -/
/-- no exception -/
def W0 : WX := fun _ _ _ _ => False
def lcL (g : GM) (mt : TM) (me : EM) (δ : Sv) : List D → Mem → Out (List D)
  | [], μ => .ok [] μ
  | d :: ds, μ => match g d δ μ with
    | .nx δ1 μ1 => match mt δ1 μ1 with
      | .ok true μ2 => match me δ1 μ2 with
        | .ok y μ3 => match lcL g mt me δ ds μ3 with
          | .ok ys μ4 => .ok (y :: ys) μ4
          | _ => .stuck
        | _ => .stuck
      | .ok false μ2 => lcL g mt me δ ds μ2
      | _ => .stuck
    | _ => .stuck
def eLc (mi : IM) (g : GM) (mt : TM) (me : EM) (vs : List Nat) : EM := fun δ μ => (mi δ μ).bind fun items μ1 => match lcL g mt me (wipeD δ vs) items μ1 with
  | .ok ys μ2 => if ys.length ≤ sizeLine then .ok (.lst ys) μ2 else .stuck
  | _ => .stuck
section
variable {X : Cx} {S : SI} {W : WX} {elt tg iter : Expr} {ifs : List Expr} {scope : Scope} {own : List (Str × Nat)} {pos : Pos} {mi : IM} {g : GM} {gV : TG} {mt : TM} {me : EM}
theorem tLc_of {σ : L2.St} {H : Hp} {Q : VK} {vs : List Nat} (hn : NmTg X.K X.mg S vs gV g) (h : tM X.K X.mg S W (RelD X.K X.mg) (eLc mi g mt me vs) σ H Q) : tLc (TIm X S W mi) gV (TTm X S W0 mt) (TEm X S W0 me) vs σ H Q := by
  obtain ⟨w, δ, μ, h⟩ := h
  refine ⟨w, δ, μ, (At.bind h).mono fun J H1 ⟨w1, μ1, items, le1, wk, h1⟩ => ?_⟩
  have rs1 := h1.1
  have rm1 := h1.2.1
  have h3 := h1.2.2
  cases e : lcL g mt me (wipeD δ vs) items μ1 with
  | stuck => rw [e] at h3; exact h3.elim
  | exc x μ' => rw [e] at h3; exact h3.elim
  | ok ys μ2 =>
    rw [e] at h3
    simp only at h3
    split at h3
    case isFalse => exact h3.elim
    case isTrue hsz =>
    intro D hD
    obtain ⟨f1, f2, fg, f3⟩ := rm1.free hD
    refine ⟨fun i m H => m + i = items.length ∧ ∃ (w : Wd) (μ : Mem) (acc : List Kw.D × List V) (zs : List Kw.D), w1.Lw w ∧ w.gr = upd w1.gr D (.lst acc.2) ∧ RelDs X.K X.mg w acc.1 acc.2 ∧ RelM X.K X.mg S.T w μ H ∧ lcL g mt me (wipeD δ vs) (items.drop i) μ = .ok zs μ2 ∧ ys = acc.1 ++ zs, ⟨items.length, rfl, w1.grow D (.lst []), μ1, ([], []), ys, w1.grow_lw D _, rfl, .nil, rm1.grow hD _, e, rfl⟩, ?_⟩
    rintro i m H ⟨hm, w2, μ3, ⟨ds, us⟩, zs, lw, hgr, racc, rm, hz, rfl⟩
    simp only at hgr racc hz
    obtain ⟨k1, k2⟩ := wk w2 μ3 H i lw rm
    have hgD : w2.gr D = some (.lst us) := by rw [hgr, upd_same]
    by_cases hi : i < items.length
    · right
      obtain ⟨go, yl⟩ := k1 _ (List.getElem?_eq_getElem hi)
      rw [List.drop_eq_getElem_cons hi] at hz
      refine ⟨go, fun H' => ∃ (w : Wd) (μ : Mem) (acc : List Kw.D × List V) (zs' : List Kw.D), w1.Lw w ∧ w.gr = upd w1.gr D (.lst acc.2) ∧ RelDs X.K X.mg w acc.1 acc.2 ∧ RelM X.K X.mg S.T w μ H' ∧ lcL g mt me (wipeD δ vs) (items.drop (i + 1)) μ = .ok zs' μ2 ∧ ds ++ zs = acc.1 ++ zs', fun H' hN => ⟨items.length - (i + 1), by omega, by omega, hN⟩, fun x H' hy => ?_⟩
      obtain ⟨w3, le3, rm3, rd⟩ := yl x H' hy
      generalize items[i] = d at hz rd
      unfold lcL at hz
      have lw3 := lw.trans le3.lw
      have rs3 : RelSv X.K X.mg S w3 (wipeD δ vs) (L2.wipe σ vs) := (rs1.wipe vs).monoW lw3
      cases eg : g d (wipeD δ vs) μ3 with
      | nx δ4 μ4 =>
        rw [eg] at hz
        simp only at hz
        refine hn w3 _ μ3 d x _ H' _ δ4 μ4 rs3 rm3 rd eg fun σ' rs4 hw hμ => ?_
        subst hμ
        refine ⟨hw.trans (wipe_wipe σ vs), w3, δ4, μ4, rs4, rm3, ?_⟩
        cases et : mt δ4 μ4 with
        | ok b μ5 =>
          rw [et] at hz
          intro w5 b' H5 le5 rm5 hb
          cases hb
          have hgr5 : w5.gr = upd w1.gr D (.lst us) := by rw [le5.gr, le3.gr]; exact hgr
          cases b with
          | true =>
            simp only at hz
            rw [if_pos rfl]
            refine ⟨w5, δ4, μ5, rs4.mono le5, rm5, ?_⟩
            cases ee : me δ4 μ5 with
            | ok y μ6 =>
              rw [ee] at hz
              simp only at hz
              intro w6 v H6 le6 rm6 ry
              cases el : lcL g mt me (wipeD δ vs) (items.drop (i + 1)) μ6 with
              | ok zs' μ7 =>
                rw [el] at hz
                cases hz
                have hgr6 : w6.gr = upd w1.gr D (.lst us) := by rw [le6.gr]; exact hgr5
                have hg6 : w6.gr D = some (.lst us) := by rw [hgr6, upd_same]
                have racc6 : RelDs X.K X.mg w6 ds us := ((racc.mono le3).mono le5).mono le6
                refine ⟨us, rm6.gr D _ hg6, ?_, w6.grow D (.lst (us ++ [v])), μ6, (ds ++ [y], us ++ [v]), zs', ?_, ?_, ?_, rm6.regrow hg6 rfl _, el, by simp⟩
                · have l1 := racc.length
                  have l2 := hsz
                  simp only [List.length_append, List.length_cons] at l2
                  omega
                · exact ((lw3.trans le5.lw).trans le6.lw).trans (w6.grow_lw D _)
                · show upd w6.gr D _ = _
                  rw [hgr6]
                  funext a
                  by_cases ha : a = D
                  · subst ha; rw [upd_same, upd_same]
                  · rw [upd_ne ha, upd_ne ha, upd_ne ha]
                · exact RelDs.monoW (w6.grow_lw D _) (racc6.append (.one ry))
              | exc x μ' => rw [el] at hz; cases hz
              | stuck => rw [el] at hz; cases hz
            | exc x μ' => rw [ee] at hz; cases hz
            | stuck => rw [ee] at hz; cases hz
          | false =>
            simp only at hz
            rw [if_neg (by decide)]
            exact ⟨w5, μ5, (ds, us), zs, lw3.trans le5.lw, hgr5, (racc.mono le3).mono le5, rm5, hz, rfl⟩
        | exc x μ' => rw [et] at hz; cases hz
        | stuck => rw [et] at hz; cases hz
      | _ => rw [eg] at hz; cases hz
    · left
      refine ⟨k2 (by omega), ?_⟩
      rw [List.drop_eq_nil_of_le (by omega)] at hz
      unfold lcL at hz
      cases hz
      rw [List.append_nil] at h3
      have rdone := rm.done (g := w1.gr) hgD (fun a ha => by rw [hgr, upd_ne ha]) fg (fun _ => nofun)
      refine h3 (w2.done D (.lst us) w1.gr) _ H ⟨lw.n, lw.ρ, fun a o ha => ?_, lw.fr, rfl⟩ rdone (.lst upd_same (RelDs.monoW ?_ racc))
      · have : a ≠ D := fun z => by rw [z, f1] at ha; cases ha
        show upd w2.φ D _ a = _
        rw [upd_ne this]
        exact lw.φ a o ha
      · refine ⟨Nat.le_refl _, fun _ _ => rfl, fun a o ha => ?_, rfl⟩
        have : a ≠ D := fun z => by
          have := (rm.dg D _ hgD).1
          rw [← z, ha] at this; cases this
        show upd w2.φ D _ a = _
        rw [upd_ne this]
        exact ha
theorem pe_lc' (hc : X.calm = true) (hN : X.N.Nodup) (hi : PI X tg iter (TIm X S W mi)) (ok : BlkOk X.N X.env.scope scope own) (hn : NmTg X.K X.mg S (own.map (·.2)) gV g)
    (hg : ∀ (s : Shared) (H : Hp) (C : Addr) (cl : List (Str × Addr)) (fp : List Addr), PG (X.blk s H scope (compEnvC scope cl C X.env) fp) tg gV) (ht : ∀ (s : Shared) (H : Hp) (C : Addr) (cl : List (Str × Addr)) (fp : List Addr), PTs (X.blk s H scope (compEnvC scope cl C X.env) fp) ifs (TTm X S W0 mt))
    (he : ∀ (s : Shared) (H : Hp) (C : Addr) (cl : List (Str × Addr)) (fp : List Addr), PE (X.blk s H scope (compEnvC scope cl C X.env) fp) elt (TEm X S W0 me)) (hs : ∀ x, foldedSetIterable iter X.env x = pure x := by intro _; rfl) :
    PE X (.ListComp elt [⟨tg, iter, ifs, 0⟩] scope pos) (TEm X S W <| eLc mi g mt me (own.map (·.2))) :=
  PEi (pe_lc hc hN hi ok hg ht he hs) fun σ H Q h => tLc_of hn h
/-- name = [..] on one line -/
theorem ps_setLc' {i : Nat} {y : Str} {py spos : Pos} (hc : X.calm = true) (hN : X.N.Nodup) (hy : X.N[i]? = some y) (hyl : X.env.scope.names.lookup y = some .local)
    (hsw : swapsWith (.ListComp elt [⟨tg, iter, ifs, 0⟩] scope pos) (some (.Name y py)) spos.line X.env = pure true) (hi : PI X tg iter (TIm X S W mi)) (ok : BlkOk X.N X.env.scope scope own) (hn : NmTg X.K X.mg S (own.map (·.2)) gV g)
    (hg : ∀ (s : Shared) (H : Hp) (C : Addr) (cl : List (Str × Addr)) (fp : List Addr), PG (X.blk s H scope (compEnvC scope cl C X.env) fp) tg gV) (ht : ∀ (s : Shared) (H : Hp) (C : Addr) (cl : List (Str × Addr)) (fp : List Addr), PTs (X.blk s H scope (compEnvC scope cl C X.env) fp) ifs (TTm X S W0 mt))
    (he : ∀ (s : Shared) (H : Hp) (C : Addr) (cl : List (Str × Addr)) (fp : List Addr), PE (X.blk s H scope (compEnvC scope cl C X.env) fp) elt (TEm X S W0 me)) (hs : ∀ x, foldedSetIterable iter X.env x = pure x := by intro _; rfl) :
    PS X (.Assign [.Name y py] (.ListComp elt [⟨tg, iter, ifs, 0⟩] scope pos) spos) (TSm X S W <| sAsg (eLc mi g mt me (own.map (·.2))) (gNm i)) :=
  PSi (ps_setLc hc hN hy hyl hsw hi ok hg ht he hs) fun D σ H ⟨w, δ, μ, rs, rm, h⟩ => tLc_of hn ⟨w, δ, μ, (At.bindS rs rm h).mono fun v H1 ⟨w1, μ1, d, le, rd, rs1, rm1, q⟩ => q w1 _ H1 (Wd.Le.refl _) rm1 (rs1.set i rd)⟩
def tYesM : TM := fun _ μ => .ok true μ
theorem pts_nil' : PTs X [] (TTm X S W tYesM) := ⟨fun pins s σ H Q I ⟨w, δ, μ, h⟩ => pts_nil.run pins s σ H Q I (h.2.2 w true H (Wd.Le.refl _) h.2.1 rfl)⟩
theorem pts_one' {c : Expr} (h : PT X c (TTm X S W mt)) : PTs X [c] (TTm X S W mt) := pts_one h
end
end Kw

set_option Elab.async false
set_option linter.all false
set_option maxRecDepth 100000
namespace Kw
open PySem PySem.Spec PyProof.Rows L2

/-! ### new lists that change; lists that never change again -/
section
variable (K : PySem.W.Frag) (mg : Str → Option Value) (T : List (Addr × Str))
def rDsM (g : List D → Mem → Option (D × Mem)) : List V → Hp → VK → Prop := fun xs H Q => ∃ w μ ds d μ', RelM K mg T w μ H ∧ RelDs K mg w ds xs ∧ g ds μ = some (d, μ') ∧ ∀ w' v H', w.Le w' → RelM K mg T w' μ' H' → RelD K mg w' d v → Q v H'
end
section
variable {K : PySem.W.Frag} {mg : Str → Option Value} {T : List (Addr × Str)} {w : Wd} {μ : Mem} {H : Hp} {Q : VK}
theorem put_new (r : RelM K mg T w μ H) {o : HO} {b : Ob} (hb : RelOb K mg w b (some o)) (q : ∀ w' v H', w.Le w' → RelM K mg T w' (μ ++ [b]) H' → RelD K mg w' (.loc μ.length) v → Q v H') (ng : b ≠ .gone := by nofun) : ∀ p, H p = none → Q (.ref p) (upd H p o) := fun p hp => by
  have := RelD.loc (K := K) (mg := mg) (w := w.put p) (l := μ.length) (by rw [← r.n]; exact Nat.lt_succ_self _)
  rw [← r.n, Wd.put_at, r.n] at this
  exact q (w.put p) _ _ (w.put_le p) (r.put hp hb ng) this
end
def eAsM (g : List D → Mem → Option (D × Mem)) (ma : AM) : EM := fun δ μ => (ma δ μ).bind fun xs μ1 => oOfM (g xs μ1)
def gNewL : List D → Mem → Option (D × Mem) := fun ds μ => if ds.length ≤ sizeLine then some (.loc μ.length, μ ++ [.lst ds]) else none
def gNewList : List D → Mem → Option (D × Mem)
  | [x], μ => match seqOf μ x with
    | some xs => some (.loc μ.length, μ ++ [.lst xs])
    | none => none
  | _, _ => none
def eNewSl (mx : EM) (ml mh : OM) : EM := fun δ μ => (mx δ μ).bind fun x μ1 => (ml δ μ1).bind fun lo μ2 => (mh δ μ2).bind fun hi μ3 => match lstOf μ3 x with
  | some xs => .ok (.loc μ3.length) (μ3 ++ [.lst (cutD xs lo hi)])
  | none => .stuck
section
variable {X : Cx} {S : SI} {W : WX} {e : Expr} {es : List Expr} {mr : AM} {ma : EM} {ml mh : OM} {pos p p2 : Pos} {lo hi : Option Expr}
theorem pe_AsM {r : List V → Hp → VK → Prop} {g : List D → Mem → Option (D × Mem)} (h : ∀ t, PA X es t → PE X e (tCB r t)) (hr : ∀ x H Q, rDsM X.K X.mg S.T g x H Q → r x H Q) (ha : PA X es (TAm X S W mr)) : PE X e (TEm X S W <| eAsM g mr) :=
  PEi (h _ ha) fun σ H Q ⟨w, δ, μ, h⟩ => ⟨w, δ, μ, (At.bind h).mono fun x H1 ⟨w1, μ1, d, le, rd, h1⟩ => by
    obtain ⟨z, μ2, e, q⟩ := h1.optM
    exact hr _ _ _ ⟨w1, μ1, d, z, μ2, h1.2.1, rd, e, q⟩⟩
theorem pe_newL (h : PA X es (TAm X S W mr)) : PE X (.List es pos) (TEm X S W <| eAsM gNewL mr) :=
  pe_AsM (r := fun xs H1 Q => xs.length ≤ sizeLine ∧ ∀ p, H1 p = none → Q (.ref p) (upd H1 p (.lst xs))) (fun t h => pe_lst h) (fun xs H Q ⟨w, μ, ds, d, μ', r, rs, e, q⟩ => by
    unfold gNewL at e
    split at e
    · next hl =>
      cases e
      exact ⟨by rw [← rs.length]; exact hl, put_new r (.lst rs) q⟩
    · cases e) h
theorem pe_newList (hg : Gl X "list") (hm : X.mg "list" = none) (ha : PA X (e :: es) (TAm X S W mr)) (he : starEach (e :: es) X.env = (false, eval e X.env) :: starEach es X.env := by rfl) (hpl : (backTo pos (starEach es X.env)).any (·.1) = false := by rfl) :
    PE X (.Call (.Name "list" p) (e :: es) [] pos) (TEm X S W <| eAsM gNewList mr) := pe_AsM (fun t h => pe_callTy call_list_of hg hm (by decide +kernel) h (by decide) (by decide) he hpl) (fun xs H Q ⟨w, μ, ds, d, μ', r, rs, e, q⟩ => by
    unfold gNewList at e
    split at e
    · obtain ⟨x, rfl, rx⟩ := rs.one1
      split at e
      · next ys hy =>
        cases e
        obtain ⟨a, vs, rfl, h2, h3⟩ := seqOf_rel r rx hy
        exact ⟨a, vs, rfl, h2, put_new r (.lst h3) q⟩
      · cases e
    · cases e) ha
theorem pe_newSl (he : PE X e (TEm X S W ma)) (hl : PO X lo (TOm X S W ml)) (hu : PO X hi (TOm X S W mh)) : PE X (.Subscript e (.Slice lo hi none p2) pos) (TEm X S W <| eNewSl ma ml mh) :=
  PEi (pe_slice sl_list he hl hu) fun σ H Q ⟨w, δ, μ, h⟩ => ⟨w, δ, μ, (At.bind h).mono fun x H1 ⟨w1, μ1, d, le, rd, h1⟩ => ⟨w1, δ, μ1, (At.bind h1).mono fun l H2 ⟨w2, μ2, l', le2, re, h2⟩ =>
    ⟨w2, δ, μ2, (At.bind h2).mono fun u H3 ⟨w3, μ3, u', le3, ru, h3⟩ => by
      cases re; cases ru
      have rx := (rd.mono le2).mono le3
      have r := h3.2.1
      have h4 := h3.2.2
      split at h4
      · next ys hy =>
        obtain ⟨a, vs, rfl, h5, h6⟩ := lstOf_rel r rx hy
        exact ⟨a, vs, rfl, h5, put_new r (.lst (h6.cutV _ _)) h4⟩
      · exact h4.elim⟩⟩⟩
end

/-- a list, a dict in slot i: it never changes again -/
def sFrz (i : Nat) : SM := fun δ μ => match δ[i]? with
  | some (some (.loc l)) => match μ[l]? with
    | some (.lst xs) => .nx (δ.set i (some (.lst xs))) (μ.set l .gone)
    | _ => .stuck
  | _ => .nx δ μ
def Wd.frz (w : Wd) (p : Addr) (o : HO) : Wd := { w with φ := upd w.φ p o }
section
variable {K : PySem.W.Frag} {mg : Str → Option Value} {T : List (Addr × Str)} {w : Wd} {μ : Mem} {H : Hp}
theorem RelM.freeze (r : RelM K mg T w μ H) {l : Nat} {b : Ob} {o : HO} (hl : μ[l]? = some b) (ng : b ≠ .gone) (ho : H (w.ρ l) = some o) : w.Le (w.frz (w.ρ l) o) ∧ RelM K mg T (w.frz (w.ρ l) o) (μ.set l .gone) H := by
  obtain ⟨hb, hn⟩ := r.ob l b hl
  obtain ⟨n1, n2, n3⟩ := hn ng
  have hlt : l < μ.length := (List.getElem?_eq_some_iff.mp hl).1
  have hc : chg o = true := by rw [ho] at hb; exact hb.chg ng
  have ne : ∀ {a u}, w.φ a = some u → a ≠ w.ρ l := fun {a u} h e => by rw [e, n1] at h; cases h
  have le : w.Le (w.frz (w.ρ l) o) := ⟨Nat.le_refl _, fun _ _ => rfl, fun a u h => by show upd w.φ _ o a = _; rw [upd_ne (ne h)]; exact h, rfl, rfl⟩
  refine ⟨le, ⟨by simp [Wd.frz, r.n], fun a u h => ?_, r.fr, r.gr, fun a u h => ?_, fun a u h => ?_, fun l' b' hb' => ?_, fun l' hl' => ?_, r.inj, r.tabs, fun a ps => ?_⟩⟩
  · have h' : upd w.φ (w.ρ l) o a = some u := h
    by_cases e : a = w.ρ l
    · subst e; rw [upd_same] at h'; cases h'; exact ho
    · rw [upd_ne e] at h'; exact r.φ a u h'
  · have h' : w.fr a = some u := h
    show upd w.φ _ o a = none
    rw [upd_ne (fun e => by rw [e, n2] at h'; cases h')]; exact r.dj a u h
  · have h' : w.gr a = some u := h
    refine ⟨?_, (r.dg a u h).2⟩
    show upd w.φ _ o a = none
    rw [upd_ne (fun e => by rw [e, n3] at h'; cases h')]; exact (r.dg a u h).1
  · by_cases e : l = l'
    · subst e
      rw [List.getElem?_set_self hlt] at hb'
      cases hb'
      exact ⟨by show RelOb K mg _ .gone (H (w.ρ l)); rw [ho]; exact .gone, fun h => absurd rfl h⟩
    · rw [List.getElem?_set_ne e] at hb'
      obtain ⟨k1, k2⟩ := r.ob l' b' hb'
      refine ⟨k1.mono le, fun ng' => ?_⟩
      obtain ⟨m1, m2, m3⟩ := k2 ng'
      refine ⟨?_, m2, m3⟩
      have hlt' : l' < μ.length := (List.getElem?_eq_some_iff.mp hb').1
      show upd w.φ _ o (w.ρ l') = none
      rw [upd_ne (fun z => e (r.inj l l' (by rw [r.n]; exact hlt) (by rw [r.n]; exact hlt') z.symm))]
      exact m1
  · show ∃ u, upd w.φ (w.ρ l) o (w.ρ l') = some u
    by_cases z : w.ρ l' = w.ρ l
    · rw [z, upd_same]; exact ⟨o, rfl⟩
    · rw [upd_ne z]
      by_cases e : l = l'
      · subst e; exact absurd rfl z
      · rw [List.getElem?_set_ne e] at hl'
        exact r.gn l' hl'
  · show upd w.φ _ o a ≠ _
    by_cases e : a = w.ρ l
    · subst e; rw [upd_same]; intro z; cases z; cases hc
    · rw [upd_ne e]; exact r.nt a ps
end
section
variable {X : Cx} {S : SI} {W : WX} {sts : List Stmt} {m : SM}
theorem tS_frz {D : Ends} {σ : L2.St} {H : Hp} {i : Nat} (h : TSm X S W (sSeq (sFrz i) m) D σ H) : TSm X S W m D σ H := by
  obtain ⟨w, δ, μ, rs, rm, h⟩ := h
  unfold sSeq sFrz at h
  split at h
  · next l hl =>
    split at h
    · next xs hx =>
      obtain ⟨vs, h1, h2⟩ := rm.lst hx
      obtain ⟨le, rm'⟩ := rm.freeze hx nofun h1
      obtain ⟨v, hv, rv⟩ := rs.2 i _ hl
      refine ⟨_, _, _, ?_, rm', STo.mono le h⟩
      have hv' : v = .ref (w.ρ l) := by cases rv; rfl
      have rd : RelD X.K X.mg (w.frz (w.ρ l) (.lst vs)) (.lst xs) v := by rw [hv']; exact .lst upd_same (RelDs.mono le h2)
      have := (rs.mono le).set i rd
      rwa [show σ.set i (some v) = σ from by
        refine List.ext_getElem? fun j => ?_
        by_cases e : i = j
        · subst e; rw [List.getElem?_set_self (by have := (List.getElem?_eq_some_iff.mp hv).1; exact this), hv]
        · rw [List.getElem?_set_ne e]] at this
    · exact h.elim
  · exact ⟨w, δ, μ, rs, rm, h⟩
theorem pss_frz (i : Nat) (h : PSs X sts (TSm X S W m)) : PSs X sts (TSm X S W <| sSeq (sFrz i) m) := PSsi h fun D σ H q => tS_frz q
end

/-! ### o[i] = v of a list -/
def gSet : D → D → D → Mem → Option Mem
  | .loc l, .int i, v, μ => match μ[l]? with
    | some (.lst xs) => match ixN xs.length i with
      | some j => some (μ.set l (.lst (xs.set j v)))
      | none => none
    | _ => none
  | _, _, _, _ => none
def gSubM (mo mi : EM) : GM := fun v δ μ => (mo δ μ).bindS δ fun o μ1 => (mi δ μ1).bindS δ fun i μ2 => match gSet o i v μ2 with
  | some μ3 => .nx δ μ3
  | none => .stuck
section
variable {X : Cx} {S : SI} {W : WX} {o i tg : Expr} {mo mi : EM}
theorem pg_sub' (h : ∀ to ti, PE X o to → PE X i ti → PG X tg (L2.gSub to ti rSetL)) (ho : PE X o (TEm X S W mo)) (hi : PE X i (TEm X S W mi)) : PG X tg (TGm X S W <| gSubM mo mi) :=
  PGi (h _ _ ho hi) fun v σ H Q ⟨D, w, δ, μ, d, rs, rm, rd, q, hq⟩ => ⟨w, δ, μ, (At.bindS rs rm q).mono fun x H1 ⟨w1, μ1, x', le1, rx, rs1, rm1, q1⟩ => ⟨w1, δ, μ1, (At.bindS rs1 rm1 q1).mono fun y H2 ⟨w2, μ2, y', le2, ry, rs2, rm2, q2⟩ => by
    split at q2
    · next μ3 e =>
      unfold gSet at e
      split at e
      · next l k v' =>
        cases rx with
        | loc hln =>
        cases ry
        split at e
        · next xs hx =>
          split at e
          · next j hj =>
            cases e
            obtain ⟨vs, h1, h2⟩ := rm2.lst hx
            have hρ := le2.ρ l hln
            refine ⟨w2.ρ l, vs, k, j, by rw [hρ], rfl, h1, by rw [← h2.length]; exact hj, ?_⟩
            exact hq _ _ (q2 w2 σ _ (Wd.Le.refl _) (rm2.write hx nofun (.lst (h2.set j ((rd.mono le1).mono le2)))) rs2)
          · cases e
        · cases e
      · cases e
    · exact q2.elim⟩⟩
end
end Kw

set_option Elab.async false
set_option linter.all false
set_option maxRecDepth 100000
namespace Kw
open PySem PySem.Spec PyProof.Rows L2

/-! ### what a call sees of the caller's places, what it gives back -/
mutual
/-- no place from k on (sc: nothing lent either) -/
def locB (sc : Bool) (k : Nat) : D → Bool
  | .tup xs => locBs sc k xs
  | .lst xs => locBs sc k xs
  | .scr xs => !sc && locBs sc k xs
  | .loc l => decide (l < k)
  | .non => true
  | .bl _ => true
  | .int _ => true
  | .str _ => true
  | .glb _ => true
  | .ty _ => true
  | _ => false
def locBs (sc : Bool) (k : Nat) : List D → Bool
  | [] => true
  | d :: ds => locB sc k d && locBs sc k ds
end
def locBk (sc : Bool) (k : Nat) : List (D × D) → Bool
  | [] => true
  | p :: ps => locB sc k p.2 && locBk sc k ps
def obB (k : Nat) : Ob → Bool
  | .lst xs => locBs false k xs
  | .dct kvs => locBs false k (kvs.map (·.2))
  | .ins _ fs => locBs false k (fs.map (·.2))
  | .gone => true
mutual
def frzW (f : Nat → Option D) : D → Option D
  | .tup xs => match frzWs f xs with
    | some ys => some (.tup ys)
    | none => none
  | .lst xs => match frzWs f xs with
    | some ys => some (.lst ys)
    | none => none
  | .scr xs => match frzWs f xs with
    | some ys => some (.scr ys)
    | none => none
  | .loc l => f l
  | .non => some .non
  | .bl b => some (.bl b)
  | .int i => some (.int i)
  | .str x => some (.str x)
  | .glb x => some (.glb x)
  | .ty n => some (.ty n)
  | _ => none
def frzWs (f : Nat → Option D) : List D → Option (List D)
  | [] => some []
  | d :: ds => match frzW f d, frzWs f ds with
    | some p, some ps => some (p :: ps)
    | _, _ => none
end
def frzL (μ : Mem) : Nat → Nat → Option D
  | 0, _ => none
  | n + 1, l => match μ[l]? with
    | some (.lst xs) => match frzWs (frzL μ n) xs with
      | some ys => some (.scr ys)
      | none => none
    | _ => none
abbrev FM := List D → Mem → Out D
/-- a call that sees the places -/
def callM (m : FM) (ds : List D) (μ : Mem) : Out D := match m ds μ with
  | .ok d μ' => if (locB false μ.length d && (μ'.take μ.length).all (obB μ.length)) = true then .ok d (μ'.take μ.length) else .ok d μ'
  | .exc x μ' => if (locBs false μ.length (x.fs.map (·.2)) && (μ'.take μ.length).all (obB μ.length)) = true then .exc x (μ'.take μ.length) else .exc x μ'
  | .stuck => .stuck
/-- a call that changes no place: it begins with none; places among the arguments are lent -/
def callP (m : FM) (ds : List D) (μ : Mem) : Out D := if locBs false 0 ds = true then match m ds [] with
    | .ok d _ => if locB false 0 d = true then .ok d μ else .stuck
    | .exc x _ => if locBs false 0 (x.fs.map (·.2)) = true then .exc x μ else .stuck
    | .stuck => .stuck
  else match frzWs (frzL μ 4) ds with
    | some es => match m es [] with
      | .ok d _ => if locB true 0 d = true then .ok d μ else .stuck
      | .exc x _ => if locBs true 0 (x.fs.map (·.2)) = true then .exc x μ else .stuck
      | .stuck => .stuck
    | none => .stuck

section
variable {K : PySem.W.Frag} {mg : Str → Option Value} {T : List (Addr × Str)} {w w' : Wd} {μ : Mem} {H : Hp}
/-- from a world into one with the same laid things, the places below k, what was lent (unless sc) -/
structure Into (sc : Bool) (k : Nat) (w w' : Wd) : Prop where
  φ : ∀ a o, w.φ a = some o → w'.φ a = some o
  fr : sc = false → w'.fr = w.fr
  ρ : ∀ l, l < k → l < w.n → l < w'.n ∧ w'.ρ l = w.ρ l
mutual
theorem RelD.into {sc : Bool} {k : Nat} (t : Into sc k w w') : ∀ (d : D) (v : V), RelD K mg w d v → locB sc k d = true → RelD K mg w' d v
  | .non, _, h, _ => by cases h; exact .non
  | .bl b, _, h, _ => by cases h; exact .bl b
  | .int b, _, h, _ => by cases h; exact .int b
  | .str b, _, h, _ => by cases h; exact .str b
  | .ty b, _, h, _ => by cases h; exact .ty b
  | .glb b, _, h, _ => by cases h with | glb e => exact .glb e
  | .tup xs, _, h, hb => by
    cases h with
    | tup e rs => exact .tup (sqT_mono t.φ e) (RelDs.into t xs _ rs (by simpa only [locB] using hb))
  | .lst xs, _, h, hb => by
    cases h with
    | lst e rs => exact .lst (t.φ _ _ e) (RelDs.into t xs _ rs (by simpa only [locB] using hb))
  | .scr xs, _, h, hb => by
    cases h with
    | scr e rs =>
      simp only [locB, Bool.and_eq_true, Bool.not_eq_true'] at hb
      refine .scr (e.imp (sqL_mono t.φ) fun e => by rw [t.fr hb.1]; exact e) (RelDs.into t xs _ rs hb.2)
  | .loc l, _, h, hb => by
    cases h with
    | loc hl =>
      obtain ⟨h1, h2⟩ := t.ρ l (by simpa only [locB, decide_eq_true_eq] using hb) hl
      rw [← h2]
      exact .loc h1
  | .dct _, _, _, hb => by cases hb
  | .brd _, _, _, hb => by cases hb
  | .lam, _, _, hb => by cases hb
  | .exc _ _, _, _, hb => by cases hb
theorem RelDs.into {sc : Bool} {k : Nat} (t : Into sc k w w') : ∀ (ds : List D) (vs : List V), RelDs K mg w ds vs → locBs sc k ds = true → RelDs K mg w' ds vs
  | [], _, h, _ => by cases h; exact .nil
  | d :: ds, _, h, hb => by
    cases h with
    | cons r rs =>
      simp only [locBs, Bool.and_eq_true] at hb
      exact .cons (RelD.into t d _ r hb.1) (RelDs.into t ds _ rs hb.2)
end
theorem RelOb.into {k : Nat} (t : Into false k w w') {b : Ob} {o : Option HO} (h : RelOb K mg w b o) (hb : obB k b = true) : RelOb K mg w' b o := by
  cases h with
  | lst r => exact .lst (RelDs.into t _ _ r hb)
  | dct e r => exact .dct e (RelDs.into t _ _ r hb)
  | ins e r => exact .ins e ⟨r.1, RelDs.into t _ _ r.2 hb⟩
  | gone => exact .gone
theorem RelX.into {sc : Bool} {k : Nat} (t : Into sc k w w') {x : Xn} {c : Value} {d : Option Addr} (h : RelX K mg w x c d) (hb : locBs sc k (x.fs.map (·.2)) = true) : RelX K mg w' x c d := by
  obtain ⟨C, dd, gs, a, b, c, d, e⟩ := h
  exact ⟨C, dd, gs, a, b, c, t.φ _ _ d, e.1, RelDs.into t _ _ e.2 hb⟩
/-- the places from k on forgotten -/
def Wd.trunc (w : Wd) (k : Nat) : Wd := { w with n := k }
theorem RelM.trunc {k : Nat} (r : RelM K mg T w μ H) (hk : k ≤ μ.length) (hb : (μ.take k).all (obB k) = true) : RelM K mg T (w.trunc k) (μ.take k) H := by
  have t : Into false k w (w.trunc k) := ⟨fun _ _ h => h, fun _ => rfl, fun l h _ => ⟨h, rfl⟩⟩
  refine ⟨by simp [Wd.trunc]; omega, r.φ, r.fr, r.gr, r.dj, r.dg, fun l b hl => ?_, fun l hl => ?_, fun l l' h h' e => ?_, r.tabs, r.nt⟩
  · have hb' : b ∈ μ.take k := List.mem_of_getElem? hl
    have hlk : l < k := by have := (List.getElem?_eq_some_iff.mp hl).1; simp at this; omega
    rw [List.getElem?_take_of_lt hlk] at hl
    obtain ⟨h1, h2⟩ := r.ob l b hl
    exact ⟨h1.into t (List.all_eq_true.mp hb b hb'), h2⟩
  · have hlk : l < k := by have := (List.getElem?_eq_some_iff.mp hl).1; simp at this; omega
    rw [List.getElem?_take_of_lt hlk] at hl
    exact r.gn l hl
  · have h1 : l < k := h
    have h2 : l' < k := h'
    exact r.inj l l' (by rw [r.n]; omega) (by rw [r.n]; omega) e

/-- the caller's places, as a call that changes none sees them: lent or apart -/
noncomputable def cells (w : Wd) (H : Hp) : Hp := fun a => open Classical in if w.φ a = none ∧ w.fr a = none ∧ w.gr a = none ∧ ∃ l, l < w.n ∧ w.ρ l = a then H a else none
noncomputable def join (f g : Hp) : Hp := fun a => match f a with
  | some o => some o
  | none => g a
theorem cells_some {a : Addr} {o : HO} (h : cells w H a = some o) : w.φ a = none ∧ w.fr a = none ∧ w.gr a = none ∧ H a = some o := by
  unfold cells at h
  split at h
  · next hc => exact ⟨hc.1, hc.2.1, hc.2.2.1, h⟩
  · cases h
theorem cells_at (r : RelM K mg T w μ H) {l : Nat} {b : Ob} (hl : μ[l]? = some b) (ng : b ≠ .gone) : cells w H (w.ρ l) = H (w.ρ l) := by
  have hlt : l < w.n := by rw [r.n]; exact (List.getElem?_eq_some_iff.mp hl).1
  obtain ⟨h1, h2, h3⟩ := (r.ob l b hl).2 ng
  unfold cells
  rw [if_pos ⟨h1, h2, h3, l, hlt, rfl⟩]
noncomputable def Wd.lend (w : Wd) (H : Hp) : Wd := { n := 0, ρ := w.ρ, φ := w.φ, fr := join w.fr (cells w H), gr := w.gr }
noncomputable def Wd.apart (w : Wd) (H : Hp) : Wd := { n := 0, ρ := w.ρ, φ := w.φ, fr := w.fr, gr := join w.gr (cells w H) }
theorem join_some {f g : Hp} {a : Addr} {o : HO} (h : join f g a = some o) : f a = some o ∨ (f a = none ∧ g a = some o) := by
  unfold join at h
  split at h
  · next u hu => cases h; exact .inl hu
  · next hu => exact .inr ⟨hu, h⟩
theorem RelM.lend (r : RelM K mg T w μ H) : RelM K mg T (w.lend H) [] H := by
  refine ⟨rfl, r.φ, fun a o h => ?_, r.gr, fun a o h => ?_, fun a o h => ⟨(r.dg a o h).1, ?_⟩, fun l b h => by simp at h, fun l h => by simp at h, fun l l' h => absurd h (Nat.not_lt_zero _), r.tabs, r.nt⟩
  · rcases join_some h with h | ⟨_, h⟩
    · exact r.fr a o h
    · exact (cells_some h).2.2.2
  · rcases join_some h with h | ⟨_, h⟩
    · exact r.dj a o h
    · exact (cells_some h).1
  · have h' : w.gr a = some o := h
    show join w.fr (cells w H) a = none
    unfold join
    rw [(r.dg a o h).2]
    simp only
    unfold cells
    rw [if_neg fun hc => by rw [hc.2.2.1] at h'; cases h']
theorem RelM.apart (r : RelM K mg T w μ H) : RelM K mg T (w.apart H) [] H := by
  refine ⟨rfl, r.φ, r.fr, fun a o h => ?_, r.dj, fun a o h => ?_, fun l b h => by simp at h, fun l h => by simp at h, fun l l' h => absurd h (Nat.not_lt_zero _), r.tabs, r.nt⟩
  · rcases join_some h with h | ⟨_, h⟩
    · exact r.gr a o h
    · exact (cells_some h).2.2.2
  · rcases join_some h with h | ⟨_, h⟩
    · exact r.dg a o h
    · exact ⟨(cells_some h).1, (cells_some h).2.1⟩
/-- back in the caller -/
def Wd.back (w w1 : Wd) : Wd := { w with φ := w1.φ }
theorem RelM.back {w1 : Wd} {μ1 : Mem} {H1 : Hp} (r : RelM K mg T w μ H) (r1 : RelM K mg T w1 μ1 H1) (hφ : ∀ a o, w.φ a = some o → w1.φ a = some o) (hf : ∀ a o, w.fr a = some o → H1 a = some o ∧ w1.φ a = none) (hg : ∀ a o, w.gr a = some o → H1 a = some o ∧ w1.φ a = none)
    (hc : ∀ a o, cells w H a = some o → H1 a = some o ∧ w1.φ a = none) : w.Le (w.back w1) ∧ RelM K mg T (w.back w1) μ H1 := by
  have le : w.Le (w.back w1) := ⟨Nat.le_refl _, fun _ _ => rfl, hφ, rfl, rfl⟩
  refine ⟨le, r.n, r1.φ, fun a o h => (hf a o h).1, fun a o h => (hg a o h).1, fun a o h => (hf a o h).2, fun a o h => ⟨(hg a o h).2, (r.dg a o h).2⟩, fun l b hl => ?_, fun l hl => (r.gn l hl).imp fun u h => hφ _ _ h, r.inj, r1.tabs, r1.nt⟩
  obtain ⟨h1, h2⟩ := r.ob l b hl
  by_cases ng : b = .gone
  · subst ng
    obtain ⟨u, hu⟩ := r.gn l hl
    have := r1.φ _ _ (hφ _ _ hu)
    exact ⟨by show RelOb K mg _ .gone (H1 (w.ρ l)); rw [this]; exact .gone, fun z => absurd rfl z⟩
  · obtain ⟨k1, k2, k3⟩ := h2 ng
    have hcell := cells_at r hl ng
    cases e : H (w.ρ l) with
    | none => rw [e] at h1; cases h1
    | some o =>
      rw [e] at hcell
      obtain ⟨m1, m2⟩ := hc _ _ hcell
      refine ⟨?_, fun _ => ⟨m2, k2, k3⟩⟩
      show RelOb K mg _ b (H1 (w.ρ l))
      rw [m1, ← e]
      exact h1.mono le
theorem join_l {f g : Hp} {a : Addr} {o : HO} (h : f a = some o) : join f g a = some o := by unfold join; rw [h]
theorem join_r {f g : Hp} {a : Addr} {o : HO} (h : f a = none) (h' : g a = some o) : join f g a = some o := by unfold join; rw [h]; exact h'
theorem RelM.back_lend {w1 : Wd} {μ1 : Mem} {H1 : Hp} (r : RelM K mg T w μ H) (le : (w.lend H).Le w1) (r1 : RelM K mg T w1 μ1 H1) : w.Le (w.back w1) ∧ RelM K mg T (w.back w1) μ H1 := by
  have fr1 : ∀ a o, join w.fr (cells w H) a = some o → H1 a = some o ∧ w1.φ a = none := fun a o h => by
    have h' : w1.fr a = some o := by rw [le.fr]; exact h
    exact ⟨r1.fr a o h', r1.dj a o h'⟩
  refine r.back r1 le.φ (fun a o h => fr1 a o (join_l h)) (fun a o h => ?_) fun a o h => fr1 a o (join_r (cells_some h).2.1 h)
  have h' : w1.gr a = some o := by rw [le.gr]; exact h
  exact ⟨r1.gr a o h', (r1.dg a o h').1⟩
theorem RelM.back_apart {w1 : Wd} {μ1 : Mem} {H1 : Hp} (r : RelM K mg T w μ H) (le : (w.apart H).Le w1) (r1 : RelM K mg T w1 μ1 H1) : w.Le (w.back w1) ∧ RelM K mg T (w.back w1) μ H1 := by
  have gr1 : ∀ a o, join w.gr (cells w H) a = some o → H1 a = some o ∧ w1.φ a = none := fun a o h => by
    have h' : w1.gr a = some o := by rw [le.gr]; exact h
    exact ⟨r1.gr a o h', (r1.dg a o h').1⟩
  refine r.back r1 le.φ (fun a o h => ?_) (fun a o h => gr1 a o (join_l h)) fun a o h => gr1 a o (join_r (cells_some h).2.2.1 h)
  have h' : w1.fr a = some o := by rw [le.fr]; exact h
  exact ⟨r1.fr a o h', r1.dj a o h'⟩
mutual
theorem frzW_rel (r : RelM K mg T w μ H) {f : Nat → Option D} (hf : ∀ l d, l < w.n → f l = some d → RelD K mg (w.lend H) d (.ref (w.ρ l))) : ∀ (d : D) (v : V) (e : D), RelD K mg w d v → frzW f d = some e → RelD K mg (w.lend H) e v
  | .non, _, _, rd, h => by cases rd; cases h; exact .non
  | .bl b, _, _, rd, h => by cases rd; cases h; exact .bl b
  | .int i, _, _, rd, h => by cases rd; cases h; exact .int i
  | .str i, _, _, rd, h => by cases rd; cases h; exact .str i
  | .ty i, _, _, rd, h => by cases rd; cases h; exact .ty i
  | .glb i, _, _, rd, h => by cases rd with | glb e => cases h; exact .glb e
  | .tup xs, _, _, rd, h => by
    cases rd with
    | tup e rs =>
      simp only [frzW] at h
      split at h
      · next ps hp => cases h; exact .tup e (frzWs_rel r hf xs _ _ rs hp)
      · cases h
  | .lst xs, _, _, rd, h => by
    cases rd with
    | lst e rs =>
      simp only [frzW] at h
      split at h
      · next ps hp => cases h; exact .lst e (frzWs_rel r hf xs _ _ rs hp)
      · cases h
  | .scr xs, _, _, rd, h => by
    cases rd with
    | scr e rs =>
      simp only [frzW] at h
      split at h
      · next ps hp => cases h; exact .scr (e.imp id fun e => join_l e) (frzWs_rel r hf xs _ _ rs hp)
      · cases h
  | .loc l, _, _, rd, h => by
    cases rd with
    | loc hl => exact hf l _ hl h
  | .dct _, _, _, _, h => by cases h
  | .brd _, _, _, _, h => by cases h
  | .lam, _, _, _, h => by cases h
  | .exc _ _, _, _, _, h => by cases h
theorem frzWs_rel (r : RelM K mg T w μ H) {f : Nat → Option D} (hf : ∀ l d, l < w.n → f l = some d → RelD K mg (w.lend H) d (.ref (w.ρ l))) : ∀ (ds : List D) (vs : List V) (es : List D), RelDs K mg w ds vs → frzWs f ds = some es → RelDs K mg (w.lend H) es vs
  | [], _, _, rd, h => by cases rd; cases h; exact .nil
  | d :: ds, _, _, rd, h => by
    cases rd with
    | cons r1 r2 =>
      simp only [frzWs] at h
      split at h
      · next p ps hp hps => cases h; exact .cons (frzW_rel r hf d _ _ r1 hp) (frzWs_rel r hf ds _ _ r2 hps)
      · cases h
end
theorem frzL_rel (r : RelM K mg T w μ H) : ∀ (n l : Nat) (d : D), l < w.n → frzL μ n l = some d → RelD K mg (w.lend H) d (.ref (w.ρ l))
  | 0, l, p, _, h => by cases h
  | n + 1, l, p, _, h => by
    simp only [frzL] at h
    split at h
    · next xs q =>
      obtain ⟨vs, h1, h2⟩ := r.lst q
      split at h
      · next ps hp =>
        cases h
        have hc : cells w H (w.ρ l) = some (.lst vs) := by rw [cells_at r q nofun]; exact h1
        exact .scr (.inr (join_r (cells_some hc).2.1 hc)) (frzWs_rel r (frzL_rel r n) _ _ _ h2 hp)
      · cases h
    · cases h
end

/-! ### what a def promises -/
section
variable (K : PySem.W.Frag) (mg : Str → Option Value) (T : List (Addr × Str))
/-- a call's end, by data -/
def FTo (w : Wd) (Q : VK) (E : XK) (o : Out D) : Prop := o.to (fun d μ' => ∀ w' v H', w.Le w' → RelM K mg T w' μ' H' → RelD K mg w' d v → Q v H') (fun x μ' => ∀ w' cls dd H', w.Le w' → RelM K mg T w' μ' H' → RelX K mg w' x cls dd → E cls dd H')
/-- n arguments; it does what m says -/
def spM (n : Nat) (m : FM) : Sp := fun vs H Q E => vs.length = n ∧ ∃ w μ ds, RelM K mg T w μ H ∧ RelDs K mg w ds vs ∧ FTo K mg T w Q E (m ds μ)
end
section
variable {K : PySem.W.Frag} {mg : Str → Option Value} {T : List (Addr × Str)} {w : Wd} {μ : Mem} {H : Hp} {Q : VK} {E : XK} {m : FM} {ds : List D} {vs : List V} {n : Nat}
theorem sp_callM (hl : vs.length = n) (r : RelM K mg T w μ H) (rs : RelDs K mg w ds vs) (h : FTo K mg T w Q E (callM m ds μ)) : spM K mg T n m vs H Q E := by
  refine ⟨hl, w, μ, ds, r, rs, ?_⟩
  unfold callM at h
  have into : ∀ {w' : Wd}, w.Le w' → Into false μ.length w' (w'.trunc μ.length) := fun le => ⟨fun _ _ h => h, fun _ => rfl, fun l h _ => ⟨h, rfl⟩⟩
  have lt : ∀ {w' : Wd}, w.Le w' → w.Le (w'.trunc μ.length) := fun le => ⟨by rw [r.n]; exact Nat.le_refl _, le.ρ, le.φ, le.fr, le.gr⟩
  cases e : m ds μ with
  | stuck => rw [e] at h; exact h
  | ok d μ' =>
    rw [e] at h
    simp only at h
    split at h
    · next hc =>
      rw [Bool.and_eq_true] at hc
      intro w' v H' le rm rd
      exact h (w'.trunc μ.length) v H' (lt le) (rm.trunc (by rw [← rm.n, ← r.n]; exact le.n) hc.2) (RelD.into (into le) _ _ rd hc.1)
    · exact h
  | exc x μ' =>
    rw [e] at h
    simp only at h
    split at h
    · next hc =>
      rw [Bool.and_eq_true] at hc
      intro w' c dd H' le rm rx
      exact h (w'.trunc μ.length) c dd H' (lt le) (rm.trunc (by rw [← rm.n, ← r.n]; exact le.n) hc.2) (rx.into (into le) hc.1)
    · exact h
theorem sp_callP (hl : vs.length = n) (r : RelM K mg T w μ H) (rs : RelDs K mg w ds vs) (h : FTo K mg T w Q E (callP m ds μ)) : spM K mg T n m vs H Q E := by
  unfold callP at h
  have hρ : ∀ {w1 : Wd} {sc : Bool}, (∀ a o, w1.φ a = some o → (w.back w1).φ a = some o) := fun a o h => h
  split at h
  · next hb =>
    have rs' : RelDs K mg (w.apart H) ds vs := RelDs.into (w := w) (w' := w.apart H) (sc := false) (k := 0) ⟨fun _ _ h => h, fun _ => rfl, fun l h => absurd h (Nat.not_lt_zero _)⟩ _ _ rs hb
    refine ⟨hl, w.apart H, [], ds, r.apart, rs', ?_⟩
    have into : ∀ {w1 : Wd}, (w.apart H).Le w1 → Into false 0 w1 (w.back w1) := fun le => ⟨fun _ _ h => h, fun _ => le.fr.symm, fun l h => absurd h (Nat.not_lt_zero _)⟩
    cases e : m ds [] with
    | stuck => rw [e] at h; exact h
    | ok d μ' =>
      rw [e] at h
      simp only at h
      split at h
      · next hc =>
        intro w1 v H1 le rm rd
        obtain ⟨le2, rm2⟩ := r.back_apart le rm
        exact h (w.back w1) v H1 le2 rm2 (RelD.into (into le) _ _ rd hc)
      · exact h.elim
    | exc x μ' =>
      rw [e] at h
      simp only at h
      split at h
      · next hc =>
        intro w1 c dd H1 le rm rx
        obtain ⟨le2, rm2⟩ := r.back_apart le rm
        exact h (w.back w1) c dd H1 le2 rm2 (rx.into (into le) hc)
      · exact h.elim
  · split at h
    · next es he =>
      refine ⟨hl, w.lend H, [], es, r.lend, frzWs_rel r (frzL_rel r 4) _ _ _ rs he, ?_⟩
      have into : ∀ {w1 : Wd}, Into true 0 w1 (w.back w1) := ⟨fun _ _ h => h, (fun h => nomatch h), fun l h => absurd h (Nat.not_lt_zero _)⟩
      cases e : m es [] with
      | stuck => rw [e] at h; exact h
      | ok d μ' =>
        rw [e] at h
        simp only at h
        split at h
        · next hc =>
          intro w1 v H1 le rm rd
          obtain ⟨le2, rm2⟩ := r.back_lend le rm
          exact h (w.back w1) v H1 le2 rm2 (RelD.into into _ _ rd hc)
        · exact h.elim
      | exc x μ' =>
        rw [e] at h
        simp only at h
        split at h
        · next hc =>
          intro w1 c dd H1 le rm rx
          obtain ⟨le2, rm2⟩ := r.back_lend le rm
          exact h (w.back w1) c dd H1 le2 rm2 (rx.into into hc)
        · exact h.elim
    · exact h.elim
end
end Kw

set_option Elab.async false
set_option linter.all false
set_option maxRecDepth 100000
namespace Kw
open PySem PySem.Spec PyProof.Rows L2

/-! ### a def, where no guard stands above (repr of lists asks it) -/
structure FnG (P : Program) (w : World) (K : PySem.W.Frag) (mg : Str → Option Value) (base : Heap) (k : Nat) (f : Addr) (fd : FuncData) (ps : List Str) (sp : Sp) : Prop where
  len : ∀ vs H Q E, sp vs H Q E → vs.length = ps.length
  run : ∀ (A : Around) (outer : List Env) (s : Shared) (H : Hp) (args : Args) (us : List Value) (vs : List V) (Q : VK) (E : XK), Room k A → A.guards = some [] → Env0 P w K mg base A outer s H → BindsTo s fd args (ps.zip us) → Vals vs us → sp vs H Q E →
    codeAny (model P w) A (.call (.ref f) args) (CR (L2.CX P w) outer P w H s Q E) s
theorem FnG.mono {P : Program} {w : World} {K : PySem.W.Frag} {mg : Str → Option Value} {base : Heap} {j k : Nat} {f : Addr} {fd : FuncData} {ps : List Str} {sp : Sp} (F : FnG P w K mg base j f fd ps sp) (h : j ≤ k) : FnG P w K mg base k f fd ps sp :=
  ⟨F.len, fun A outer s H args us vs Q E hr => F.run A outer s H args us vs Q E (hr.mono h)⟩
section
variable {X : Cx} {k : Nat} {f : Addr} {fd : FuncData} {ps ks : List Str} {sp : Sp} {W : WX} {x : Str} {p pos : Pos} {e : Expr} {es : List Expr} {kws : List Keyword} {t tk : TA}
theorem run_G {pins : List (Addr × Obj)} {σ : L2.St} {H : Hp} {s : Shared} {Q : VK} {us : List Value} {vs : List V} {args : Args} (F : FnG X.prog X.w X.K X.mg X.base k f fd ps sp) (hr : Room k X.A) (hgd : X.A.guards = some []) (hx : PassesAt (L2.CX X.prog X.w) X σ (WE W σ))
    (I : Inv X pins σ H s) (hb : BindsTo s fd args (ps.zip us)) (r : Vals vs us) (h : sp vs H Q (WE W σ)) : codeAny (model X.prog X.w) X.A (.call (.ref f) args) (fun r s' => match r with
      | .ok (.ret u) => EP X pins σ Q u s'
      | .ok _ => False
      | .error e => X.xe e s') s := by
  refine codeAny_mono (F.run X.A X.stack s H args us vs Q _ hr hgd I.env0 hb r h) fun r s' hq => ?_
  cases r with
  | error e => exact hx pins H s e s' I hq
  | ok fl =>
    cases fl with
    | ret u => exact I.after hq
    | next => exact False.elim hq
    | brk => exact False.elim hq
    | cont => exact False.elim hq
theorem call_of {M : Model} {A : Around} {f : Value} {us : List Value} {kw : List (Str × Value)} {Q E : Value → Shared → Prop} {s : Shared} (h : codeAny M A (.call f ⟨us, kw⟩) (fun r s' => match r with
      | .ok (.ret u) => Q u s'
      | .ok _ => False
      | .error e => E e s') s) : wpAny M A (call f us kw) Q E s :=
  wpAny_call (codeAny_mono h fun r s' hq => by
    cases r with
    | error e => exact hq
    | ok fl => cases fl <;> first | exact hq | exact False.elim hq)
theorem pe_G (F : FnG X.prog X.w X.K X.mg X.base k f fd ps sp) (hr : Room k X.A) (hgd : X.A.guards = some []) (hg : Gl X x) (hm : X.mg x = some (.ref f)) (hk : PySem.W.keepIn X.K (.ref f) = true) (hb : Binds X.K fd ps []) (hx : ∀ σ, PassesAt (L2.CX X.prog X.w) X σ (WE W σ))
    (ha : PA X (e :: es) t) (hdb : (x == ("__debug__" : Str)) = false := by decide) (he : starEach (e :: es) X.env = (false, eval e X.env) :: starEach es X.env := by rfl) (hpl : (backTo pos (starEach es X.env)).any (·.1) = false := by rfl) :
    PE X (.Call (.Name x p) (e :: es) [] pos) (fun σ H Q => t σ H fun vs H1 => sp vs H1 Q (WE W σ)) := by
  refine ⟨fun pins s σ H Q I h => ?_⟩
  refine wpAny_Call_Name_kw (ld_glob I hg hm ?_ hdb)
  refine PySem.W.callWith_K (h₀ := X.base) I.ok.mod.kin hk (thn (ha.run pos pins s σ H _ I h) fun us s1 ⟨vs, H1, I1, r, q⟩ => ⟨I1.kIn, ?_⟩) he hpl
  have hl : (us ++ []).length = ps.length := by rw [List.append_nil, ← r.length]; exact F.len _ _ _ _ q
  have hb' := hb s1 us I1.kIn hl
  rw [List.append_nil] at hb'
  exact call_of (run_G F hr hgd (hx σ) I1 hb' r q)
theorem pe_G0 (F : FnG X.prog X.w X.K X.mg X.base k f fd ps sp) (hr : Room k X.A) (hgd : X.A.guards = some []) (hg : Gl X x) (hm : X.mg x = some (.ref f)) (hk : PySem.W.keepIn X.K (.ref f) = true) (hb : Binds X.K fd ps []) (hx : ∀ σ, PassesAt (L2.CX X.prog X.w) X σ (WE W σ))
    (hdb : (x == ("__debug__" : Str)) = false := by decide) : PE X (.Call (.Name x p) [] [] pos) (fun σ H Q => sp [] H Q (WE W σ)) := by
  refine ⟨fun pins s σ H Q I h => ?_⟩
  refine wpAny_Call_Name_kw (ld_glob I hg hm ?_ hdb)
  have hl : (([] : List Value) ++ []).length = ps.length := F.len _ _ _ _ h
  exact PySem.W.callWith_K0 I.kIn hk (call_of (run_G F hr hgd (hx σ) I (hb s [] I.kIn hl) .nil h))
theorem pe_GK {g : List Value → List Value → List Value} {gV : List V → List V → List V} (F : FnG X.prog X.w X.K X.mg X.base k f fd ps sp) (hr : Room k X.A) (hgd : X.A.guards = some []) (hg : Gl X x) (hm : X.mg x = some (.ref f)) (hk : PySem.W.keepIn X.K (.ref f) = true) (hb : KBinds X.K fd ps ks g gV) (hx : ∀ σ, PassesAt (L2.CX X.prog X.w) X σ (WE W σ))
    (ha : PA X (e :: es) t) (hkw : PK X kws tk) (hall : (backToKw pos (keywordEach kws X.env)).all (·.1.isSome) = true := by rfl) (hks : (backToKw pos (keywordEach kws X.env)).filterMap (·.1) = ks := by rfl)
    (hdb : (x == ("__debug__" : Str)) = false := by decide) (he : starEach (e :: es) X.env = (false, eval e X.env) :: starEach es X.env := by rfl)
    (hpl : ((backTo pos (starEach (e :: es) X.env)).any (·.1) || (backToKw pos (keywordEach kws X.env)).any (·.1.isNone)) = false := by rfl) :
    PE X (.Call (.Name x p) (e :: es) kws pos) (fun σ H Q => t σ H fun vs H1 => tk σ H1 fun zs H2 => sp (gV vs zs) H2 Q (WE W σ)) := by
  refine ⟨fun pins s σ H Q I h => ?_⟩
  refine wpAny_Call_Name_kw (ld_glob I hg hm ?_ hdb)
  refine PySem.W.callWith_KW (h₀ := X.base) I.ok.mod.kin hk hall (thn (ha.run pos pins s σ H _ I h) fun us s1 ⟨vs, H1, I1, r, q⟩ => ?_) hpl he
  refine thn (hkw.run pos pins s1 σ H1 _ I1 q) fun ws s2 ⟨zs, H2, I2, rz, q2⟩ => ⟨I2.kIn, ?_⟩
  rw [hks]
  have r2 := hb.rel r rz
  have hl : (g us ws).length = ps.length := by rw [← r2.length]; exact F.len _ _ _ _ q2
  exact call_of (run_G F hr hgd (hx σ) I2 (hb.to s2 us ws I2.kIn hl) r2 q2)
end

/-! ### calls, by data -/
def eCallM (m : FM) (ma : AM) : EM := fun δ μ => (ma δ μ).bind fun ds μ1 => callM m ds μ1
def eCallP (m : FM) (ma : AM) : EM := fun δ μ => (ma δ μ).bind fun ds μ1 => callP m ds μ1
/-- f(.., k = v): g puts the values in the parameters' order -/
def eCallKP (m : FM) (g : List D → List D → List D) (ma mk : AM) : EM := fun δ μ => (ma δ μ).bind fun ds μ1 => (mk δ μ1).bind fun es μ2 => callP m (g ds es) μ2
def eCallKM (m : FM) (g : List D → List D → List D) (ma mk : AM) : EM := fun δ μ => (ma δ μ).bind fun ds μ1 => (mk δ μ1).bind fun es μ2 => callM m (g ds es) μ2
section
variable {X : Cx} {S : SI} {W : WX} {k n : Nat} {f : Addr} {fd : FuncData} {ps ks : List Str} {x : Str} {p pos kpos : Pos} {e : Expr} {es : List Expr} {kws : List Keyword} {mr mk : AM} {m : FM} {nm : Option Str} {ma : EM}
theorem At.fto {K : PySem.W.Frag} {mg : Str → Option Value} {w : Wd} {δ : Sv} {μ : Mem} {σ : L2.St} {H : Hp} {Q : VK} {o : Out D} (h : At K mg S W (RelD K mg) σ Q w δ μ H o) : FTo K mg S.T w Q (WE W σ) o := h.2.2
theorem pe_callM {e' : Expr} (h : ∀ t, PA X es t → PE X e' (fun σ H Q => t σ H fun vs H1 => spM X.K X.mg S.T n m vs H1 Q (WE W σ))) (hl : es.length = n) (ha : PA X es (TAm X S W mr)) (hn : ∀ δ μ ds μ', mr δ μ = .ok ds μ' → ds.length = n) : PE X e' (TEm X S W <| eCallM m mr) :=
  PEi (h _ ha) fun σ H Q ⟨w, δ, μ, h⟩ => ⟨w, δ, μ, by
    refine ⟨h.1, h.2.1, ?_⟩
    have h3 := h.2.2
    unfold eCallM at h3
    cases e : mr δ μ with
    | stuck => rw [e] at h3; exact h3.elim
    | exc x μ' => rw [e] at h3; exact h3
    | ok ds μ' =>
      rw [e] at h3
      intro w' vs H' le rm rs
      refine sp_callM (by rw [← rs.length]; exact hn _ _ _ _ e) rm rs ?_
      exact Out.to_mono h3 (fun d μ2 q w2 v2 H2 le2 => q w2 v2 H2 (le.trans le2)) fun x μ2 q w2 c d H2 le2 => q w2 c d H2 (le.trans le2)⟩
theorem pe_callP {e' : Expr} (h : ∀ t, PA X es t → PE X e' (fun σ H Q => t σ H fun vs H1 => spM X.K X.mg S.T n m vs H1 Q (WE W σ))) (hl : es.length = n) (ha : PA X es (TAm X S W mr)) (hn : ∀ δ μ ds μ', mr δ μ = .ok ds μ' → ds.length = n) : PE X e' (TEm X S W <| eCallP m mr) :=
  PEi (h _ ha) fun σ H Q ⟨w, δ, μ, h⟩ => ⟨w, δ, μ, by
    refine ⟨h.1, h.2.1, ?_⟩
    have h3 := h.2.2
    unfold eCallP at h3
    cases e : mr δ μ with
    | stuck => rw [e] at h3; exact h3.elim
    | exc x μ' => rw [e] at h3; exact h3
    | ok ds μ' =>
      rw [e] at h3
      intro w' vs H' le rm rs
      refine sp_callP (by rw [← rs.length]; exact hn _ _ _ _ e) rm rs ?_
      exact Out.to_mono h3 (fun d μ2 q w2 v2 H2 le2 => q w2 v2 H2 (le.trans le2)) fun x μ2 q w2 c d H2 le2 => q w2 c d H2 (le.trans le2)⟩
theorem aNil_len : ∀ δ μ ds μ', aNil δ μ = .ok ds μ' → ds.length = 0 := fun δ μ ds μ' h => by cases h; rfl
theorem aCons_len {n : Nat} (h : ∀ δ μ ds μ', mr δ μ = .ok ds μ' → ds.length = n) : ∀ δ μ ds μ', aCons ma mr δ μ = .ok ds μ' → ds.length = n + 1 := fun δ μ ds μ' e => by
  unfold aCons at e
  cases e1 : ma δ μ with
  | ok x μ1 =>
    rw [e1] at e
    cases e2 : mr δ μ1 with
    | ok xs μ2 =>
      have e' : (mr δ μ1).bind (fun xs μ2 => Out.ok (x :: xs) μ2) = .ok ds μ' := e
      rw [e2] at e'
      cases e'
      rw [List.length_cons, h _ _ _ _ e2]
    | _ =>
      have e' : (mr δ μ1).bind (fun xs μ2 => Out.ok (x :: xs) μ2) = .ok ds μ' := e
      rw [e2] at e'
      cases e'
  | _ => rw [e1] at e; cases e
theorem pk_nil' : PK X [] (TAm X S W aNil) := PKi pk_nil fun σ H Q ⟨w, δ, μ, h⟩ => h.2.2 w [] H (Wd.Le.refl _) h.2.1 .nil
theorem pk_cons' (ha : PE X e (TEm X S W ma)) (hr : PK X kws (TAm X S W mr)) : PK X (⟨nm, e, kpos⟩ :: kws) (TAm X S W <| aCons ma mr) :=
  PKi (pk_cons ha hr) fun σ H Q ⟨w, δ, μ, h⟩ => ⟨w, δ, μ, (At.bind h).mono fun x H1 ⟨w1, μ1, d, le, rd, h1⟩ => ⟨w1, δ, μ1, (At.bind h1).mono fun y H2 ⟨w2, μ2, f, le2, re, h2⟩ =>
    h2.2.2 w2 (x :: y) H2 (Wd.Le.refl _) h2.2.1 (.cons (rd.mono le2) re)⟩⟩
/-- how keywords bind, by data too -/
structure KB (n m : Nat) (gV : List V → List V → List V) (g : List D → List D → List D) : Prop where
  rel : ∀ {K : PySem.W.Frag} {mg : Str → Option Value} {w : Wd} {ds es : List D} {vs us : List V}, RelDs K mg w ds vs → RelDs K mg w es us → ds.length = n → es.length = m → RelDs K mg w (g ds es) (gV vs us)
theorem pe_callKP {e' : Expr} {g : List D → List D → List D} {gV : List V → List V → List V} {a b : Nat} (h : ∀ t tk, PA X es t → PK X kws tk → PE X e' (fun σ H Q => t σ H fun vs H1 => tk σ H1 fun zs H2 => spM X.K X.mg S.T n m (gV vs zs) H2 Q (WE W σ))) (hl : ∀ ds es, ds.length = a → es.length = b → (g ds es).length = n) (kb : KB a b gV g)
    (ha : PA X es (TAm X S W mr)) (hk : PK X kws (TAm X S W mk)) (hn : ∀ δ μ ds μ', mr δ μ = .ok ds μ' → ds.length = a) (hn2 : ∀ δ μ ds μ', mk δ μ = .ok ds μ' → ds.length = b) : PE X e' (TEm X S W <| eCallKP m g mr mk) :=
  PEi (h _ _ ha hk) fun σ H Q ⟨w, δ, μ, h⟩ => ⟨w, δ, μ, by
    refine ⟨h.1, h.2.1, ?_⟩
    have h3 := h.2.2
    unfold eCallKP at h3
    cases e : mr δ μ with
    | stuck => rw [e] at h3; exact h3.elim
    | exc x μ' => rw [e] at h3; exact h3
    | ok ds μ' =>
      rw [e] at h3
      intro w' vs H' le rm rs
      refine ⟨w', δ, μ', h.1.mono le, rm, ?_⟩
      have h4 : ((mk δ μ').bind fun es μ2 => callP m (g ds es) μ2).to _ _ := h3
      cases e2 : mk δ μ' with
      | stuck => rw [e2] at h4; exact h4.elim
      | exc x μ2 => rw [e2] at h4; exact fun w2 c d H2 le2 => h4 w2 c d H2 (le.trans le2)
      | ok es μ2 =>
        rw [e2] at h4
        intro w2 us H2 le2 rm2 rs2
        have rr := kb.rel (rs.mono le2) rs2 (hn _ _ _ _ e) (hn2 _ _ _ _ e2)
        refine sp_callP (by rw [← rr.length]; exact hl _ _ (hn _ _ _ _ e) (hn2 _ _ _ _ e2)) rm2 rr ?_
        exact Out.to_mono h4 (fun d μ2 q w3 v2 H2 le3 => q w3 v2 H2 ((le.trans le2).trans le3)) fun x μ2 q w3 c d H2 le3 => q w3 c d H2 ((le.trans le2).trans le3)⟩
end

/-! ### a def does what its body says -/
def bodyM (N : Nat) (m : SM) : FM := fun ds μ => match m (ds.map some ++ List.replicate (N - ds.length) none) μ with
  | .ret d μ' => .ok d μ'
  | .nx _ μ' => .ok .non μ'
  | .exc x _ μ' => .exc x μ'
  | _ => .stuck
theorem RelSv.start {K : PySem.W.Frag} {mg : Str → Option Value} {S : SI} {w : Wd} {ds : List D} {vs : List V} (N : List Str) (h : RelDs K mg w ds vs) : RelSv K mg S w (ds.map some ++ List.replicate (N.length - ds.length) none) (start N vs) := by
  refine ⟨by unfold L2.start; simp [h.length], fun i d hd => ?_⟩
  by_cases hi : i < ds.length
  · rw [List.getElem?_append_left (by simpa using hi), List.getElem?_map] at hd
    cases e : ds[i]? with
    | none => rw [e] at hd; cases hd
    | some d' =>
      rw [e] at hd
      cases hd
      obtain ⟨v, hv, rv⟩ := h.get e
      refine ⟨v, ?_, .of rv⟩
      unfold L2.start
      rw [List.getElem?_append_left (by rw [List.length_map, ← h.length]; exact hi), List.getElem?_map, hv]
      rfl
  · rw [List.getElem?_append_right (by simpa using hi), List.getElem?_replicate] at hd
    split at hd <;> cases hd
section
variable {P : Program} {w : World} {K : PySem.W.Frag} {mg : Str → Option Value} {base : Heap} {x qual : Str} {params : Arguments} {body : List Stmt} {scope : Scope} {dvs : List V} {kws : List (Str × V)} {f : Addr} {fd : FuncData}
theorem fnG_of {T : List (Addr × Str)} {N ps : List Str} {k n : Nat} {m : SM} (F : FunD K x qual params body scope dvs kws f fd) (S : FnScope N ps scope) (hn : ps.length = n)
    (hbody : ∀ (cdv : Value) (A : Around) (outer : List Env) (s : Shared) (H : Hp) (E : XK), Room k (A.deeper (envOfC qual scope s.heap.objs.size f cdv)) → (A.deeper (envOfC qual scope s.heap.objs.size f cdv)).guards = some [] → Takes (cxOf (L2.CX P w) P w K mg base N qual scope f cdv A outer s H E) (fun c d _ H => E c d H) →
      PSs (cxOf (L2.CX P w) P w K mg base N qual scope f cdv A outer s H E) body (tS K mg { T := T } (fun c d _ H => E c d H) m)) : FnG P w K mg base (k + 1) f fd ps (spM K mg T n (bodyM N.length m)) := by
  obtain ⟨oc, od, dV, kV, doc, pm, an, cdv, ct, osl, rfl, lk, hcd, _, _⟩ := F.ex
  have len : ∀ vs H Q E, spM K mg T n (bodyM N.length m) vs H Q E → vs.length = ps.length := fun vs H Q E h => h.1.trans hn.symm
  refine ⟨len, fun A outer s H args us vs Q E hr hgd e0 hb r hsp => ?_⟩
  have hl := len _ _ _ _ hsp
  have KX : K.In s.heap := e0.mod.kin.keeps fun b o e => (e0.bs b o e).1
  have lim : s.heap.NoLimit := e0.mod.nolimit.keeps fun b o e => (e0.bs b o e).1
  have hkind : ∀ y ∈ ps.zip us, scope.names.lookup y.1 = some .local ∨ (scope.names.lookup y.1 = some .cell ∧ ((cellsFrom (s.heap.objs.size + 1) scope.names []).lookup y.1).isSome = true) := fun ⟨n, v⟩ hy => by
    rcases S.par n (List.of_mem_zip hy).1 with q | q
    · exact .inl q
    · exact .inr ⟨q, PySem.W.cellsFrom_some _ _ _ (.inl q)⟩
  refine codeAny_call_function hr.depth (KX _ _ lk) rfl S.co S.gen rfl (PySem.W.codeRec_of KX hcd) (hb _ _ _ _ ?_)
  refine wpAny_newFunctionEnv_cells S.kind hkind fun env he s1 x => ?_
  subst he
  refine ⟨lim.keeps x.toInCall.keep, codeAny_func ?_⟩
  have ht := hbody cdv A outer s H E (hr.deeper _) hgd (takes_of rfl rfl rfl rfl)
  have I : Inv (cxOf (L2.CX P w) P w K mg base N qual scope f cdv A outer s H E) [] (start N vs) H s1 := inv_start S hr.hd e0 hl r x
  obtain ⟨_, wd, μ, ds, rm, rs, hm⟩ := hsp
  have hq : tS K mg { T := T } (fun c d _ H => E c d H) m { nx := fun _ H' => Q .non H', rt := Q } (start N vs) H := by
    refine ⟨wd, _, μ, RelSv.start N rs, rm, ?_⟩
    unfold bodyM at hm
    generalize m (ds.map some ++ List.replicate (N.length - ds.length) none) μ = o at hm ⊢
    cases o with
    | ret d μ' => exact hm
    | nx δ μ' => exact fun w' σ H' le rm' _ => hm w' .non H' le rm' .non
    | exc x δ μ' => exact fun w' c d σ H' le rm' _ rx => hm w' c d H' le rm' rx
    | bk δ μ' => exact hm.elim
    | ct δ μ' => exact hm.elim
    | stuck => exact hm.elim
  refine wpAny_mono (ht.run [] s1 (start N vs) H _ I hq) (fun fl s' hs => ?_) fun e s' hs => hs
  have fin : ∀ {σ' : L2.St} {H' : Hp} {v : V} {u : Value}, Inv (cxOf (L2.CX P w) P w K mg base N qual scope f cdv A outer s H E) [] σ' H' s' → RelV v u → Q v H' → CE outer P w H s Q u s' :=
    fun {σ' H' v u} J rv q => ⟨v, H', J.os, J.bare, J.base, J.hok, rv, q⟩
  cases fl with
  | ret u =>
    obtain ⟨v, σ', H', J, rv, q⟩ := hs
    exact fin J rv q
  | next =>
    obtain ⟨σ', H', J, q⟩ := hs
    exact fin (v := V.non) (u := Value.none) J rfl q
  | brk =>
    obtain ⟨_, _, _, q⟩ := hs
    exact False.elim q
  | cont =>
    obtain ⟨_, _, _, q⟩ := hs
    exact False.elim q
end
end Kw

set_option Elab.async false
set_option linter.all false
set_option maxRecDepth 100000
namespace Kw
open PySem PySem.Spec PyProof.Rows L2 LamX

/-! ### the law's call, where no guard stands above -/
/-- the script as it was laid -/
abbrev scrO (vs : List Value) : Obj := { cls := .type "list", data := .seq vs.toArray }
abbrev tabO : Obj := { cls := .none, data := .fields #[] }
open Classical in
noncomputable def H0 (K : PySem.W.Frag) (ts : List Addr) (a : Addr) (vs : List Value) (xs : List V) : Hp := fun b =>
  if b ∈ ts then some (.tbl #[]) else if b = a ∧ K.lookup a = none then some (.frz (scrO vs) (.lst xs)) else none
section
variable {P : Program} {w : World} {K : PySem.W.Frag} {mg mb : Str → Option Value} {k : Nat} {fa a : Addr} {cs : List (Addr × Addr)} {fd : FuncData} {x : Str} {sp : Sp} {s₁ : Shared} {vs : List Value} {ns : List Int}
theorem H0_tab {ts : List Addr} {xs : List V} {b : Addr} (h : b ∈ ts) : H0 K ts a vs xs b = some (.tbl #[]) := if_pos h
theorem H0_some {ts : List Addr} {xs : List V} {b : Addr} {u : HO} (h : H0 K ts a vs xs b = some u) : (b ∈ ts ∧ u = .tbl #[]) ∨ (b ∉ ts ∧ b = a ∧ K.lookup a = none ∧ u = .frz (scrO vs) (.lst xs)) := by
  unfold H0 at h
  split at h
  · next hb => cases h; exact .inl ⟨hb, rfl⟩
  · next hb =>
    split at h
    · next hc => cases h; exact .inr ⟨hb, hc.1, hc.2, rfl⟩
    · cases h
theorem law_callG (KX : K.In s₁.heap) (hns : s₁.heap.Ns mainGlobals mg) (hb : s₁.heap.Ns builtinsNs mb) (hbb : ∀ x : Str, x ≠ "__name__" → mb x = bootBuiltins x) (hlim : s₁.heap.NoLimit) (hg : s₁.gens = #[])
    (hT : ∀ p ∈ cs, s₁.heap.get? p.2 = some tabO) (nT : ∀ p ∈ cs, K.lookup p.2 = none) (C : ∀ p ∈ cs, PySem.W.CodeHd s₁.heap p.1 p.2)
    (hbm : ∃ (bm : Addr) (ob : Obj), mg "__builtins__" = some (.ref bm) ∧ bm ≠ builtinsNs ∧ s₁.heap.get? bm = some ob ∧ ob.cls = .type "module" ∧ ob.dict = some builtinsNs ∧ ob.data = .plain)
    (ha : s₁.heap.get? a = some (scrO vs)) (hi : IntsAre vs ns) (hl : ns.length ≤ sizeLine) (hr : Room k callerA)
    (F : ∀ base : Heap, K.In base → base.Ns mainGlobals mg → (∀ p ∈ cs, TabB base mg p.1 p.2) → FnG P w K mg base k fa fd [x] sp) (hbind : ∀ (s : Shared) (u : Value), BindsTo s fd ⟨[u], []⟩ [(x, u)])
    (hsp : ∀ H : Hp, (∀ p ∈ cs, H p.2 = some (.tbl #[])) → SqL K H a (ns.map V.int) → sp [.ref a] H (fun v _ => v = .bl true) fun _ _ _ => False) :
    codeAny (model P w) callerA (.call (.ref fa) ⟨[.ref a], []⟩) (fun r s' => r = .ok (.ret (.bool true)) ∧ OldK s₁.heap s'.heap ∧ s'.os = s₁.os ∧ AllBare s'.gens) s₁ := by
  obtain ⟨H, eH⟩ : ∃ H : Hp, H = H0 K (cs.map (·.2)) a vs (ns.map V.int) := ⟨_, rfl⟩
  have rv := vals_ints hi
  have isT : ∀ b : Addr, b ∈ cs.map (·.2) → s₁.heap.get? b = some tabO := fun b h => by
    obtain ⟨p, hp, e⟩ := List.mem_map.mp h
    rw [← e]; exact hT p hp
  have hH : ∀ p ∈ cs, H p.2 = some (.tbl #[]) := fun p hp => by rw [eH]; exact H0_tab (List.mem_map.mpr ⟨p, hp, rfl⟩)
  have aT : a ∉ cs.map (·.2) := fun z => by
    have q := isT a z
    rw [ha] at q
    have z' : Data.seq vs.toArray _ = Data.fields #[] := congrArg Obj.data (Option.some.inj q)
    cases z'
  -- what is tracked, and what stands there
  have on : ∀ b u, H b = some u → (b ∈ cs.map (·.2) ∧ u = .tbl #[] ∧ s₁.heap.get? b = some tabO) ∨ (b = a ∧ K.lookup a = none ∧ u = .frz (scrO vs) (.lst (ns.map V.int)) ∧ s₁.heap.get? b = some (scrO vs)) := fun b u h => by
    rw [eH] at h
    rcases H0_some h with ⟨h1, h2⟩ | ⟨_, h1, h2, h3⟩
    · exact .inl ⟨h1, h2, isT b h1⟩
    · exact .inr ⟨h1, h2, h3, by rw [h1]; exact ha⟩
  have hS : SqL K H a (ns.map V.int) := by
    cases hk : K.lookup a with
    | some o =>
      have e := KX a o hk
      rw [ha] at e
      cases e
      exact .inr ⟨_, vs.toArray, _, hk, rfl, rfl, rfl, by rw [List.size_toArray, hi.length]; exact hl, by simpa using rv⟩
    | none =>
      refine .inl (.inr ⟨scrO vs, ?_⟩)
      rw [eH]
      unfold H0
      rw [if_neg aT, if_pos ⟨rfl, hk⟩]
  have hok : HOk P w H s₁.heap := fun b u h => by
    rcases on b u h with ⟨_, rfl, e⟩ | ⟨rfl, _, rfl, e⟩
    · exact e
    · exact ⟨ha, by rw [List.length_map]; exact hl, vs, _, rv, ha⟩
  have off : ∀ {b : Addr} {o : Obj}, s₁.heap.get? b = some o → o.data ≠ .fields #[] → (∀ ws n, o.data ≠ .seq ws n) → H b = none := fun {b o} e h1 h2 => by
    cases q : H b with
    | none => rfl
    | some u =>
      rcases on b u q with ⟨_, _, e'⟩ | ⟨_, _, _, e'⟩
      · rw [e] at e'; cases e'; exact absurd rfl h1
      · rw [e] at e'; cases e'; exact absurd rfl (h2 _ _)
  have nsK : ∀ {b : Addr} {m : Str → Option Value}, s₁.heap.Ns b m → (hidT s₁.heap H).Ns b m := fun {b m} ⟨o, es, ep, e, d, r⟩ => ⟨o, es, ep, hidT_get e (off e (by rw [d]; nofun) (by rw [d]; nofun)), d, r⟩
  have hKb : K.In (hidT s₁.heap H) := fun b o e => hidT_get (KX b o e) (by
    cases q : H b with
    | none => rfl
    | some u =>
      rcases on b u q with ⟨h1, _, _⟩ | ⟨h1, h2, _, _⟩
      · obtain ⟨p, hp, ep⟩ := List.mem_map.mp h1
        rw [← ep, nT p hp] at e; cases e
      · rw [h1, h2] at e; cases e)
  have hM : L2.Mod K mg (hidT s₁.heap H) := ⟨hKb, nsK hns, ⟨mb, nsK hb, hbb⟩, let ⟨mc, h1, h2⟩ := hlim; ⟨mc, nsK h1, h2⟩⟩
  have TB : ∀ p ∈ cs, TabB (hidT s₁.heap H) mg p.1 p.2 := fun p hp => by
    have hTp := hT p hp
    refine ⟨?_, ?_, fun z => ?_⟩
    · obtain ⟨o, us, file, tf, flags, tg, inF, text, tt, e1, r1, r2, r3, r4, r5, r6, r7, r8, hne⟩ := C p hp
      refine ⟨o, us, file, tf, flags, tg, inF, text, tt, hidT_get e1 (off e1 (fun z => ?_) (by rw [r2]; nofun)), r1, r2, r3, r4, r5, r6, r7, r8, hne⟩
      rw [r2] at z
      cases z
      simp at r3
    · obtain ⟨bm, ob, b1, b2, b3, b4, b5, b6⟩ := hbm
      have nG : bm ≠ mainGlobals := fun q => by
        obtain ⟨o, es, ep, e, hd, _⟩ := hns
        rw [q, e] at b3
        cases b3
        rw [hd] at b6
        cases b6
      have nP : bm ≠ p.2 := fun q => by
        rw [q, hTp] at b3
        cases b3
        cases b6
      exact ⟨bm, ob, b1, b2, nG, nP, hidT_get b3 (off b3 (by rw [b6]; nofun) (by rw [b6]; nofun)), b4, b5, b6⟩
    · obtain ⟨o, es, ep, e, hd, _⟩ := hns
      rw [z, hTp] at e
      cases e
      cases hd
  have e0 : Env0 P w K mg (hidT s₁.heap H) callerA [] s₁ H := ⟨rfl, hM, fun b o e => of_hidT e, Nat.le_of_eq (hidT_size _ _), trivial, fun b hb => absurd (show b ∈ ([] : List Addr) from hb) (by simp), hok, .of_eq hg⟩
  refine codeAny_mono ((F _ hKb (nsK hns) TB).run callerA [] s₁ H ⟨[.ref a], []⟩ [.ref a] [.ref a] _ _ hr rfl e0 (hbind s₁ (.ref a)) (.cons rfl .nil) (hsp H hH hS)) fun r s' h => ?_
  cases r with
  | error e =>
    obtain ⟨_, _, _, _, _, _, _, _, _, _, _, _, z⟩ := h
    exact z.elim
  | ok fl =>
    cases fl with
    | next => exact False.elim h
    | brk => exact False.elim h
    | cont => exact False.elim h
    | ret u =>
      obtain ⟨v, H', os, bare, un, hok', r', q⟩ := h
      have q' : v = .bl true := q
      subst q'
      obtain rfl : u = Value.bool true := r'
      refine ⟨rfl, ⟨fun b o e => ?_, fun b o e => ?_⟩, os, bare⟩
      · cases q : H b with
        | none => exact .inl (un.keep b o e q (fun z => absurd (show b ∈ ([] : List Addr) from z) (by simp)) (by simp))
        | some u =>
          rcases on b u q with ⟨h1, rfl, e'⟩ | ⟨_, _, rfl, e'⟩
          · obtain ⟨p, hp, ep⟩ := List.mem_map.mp h1
            rw [e] at e'
            cases e'
            obtain ⟨more, z⟩ := un.tbls b #[] q
            have z' := hok' b _ z
            rw [← ep] at z' ⊢
            exact .inr (.inl ⟨((C p hp).tab (hT p hp)).isCodeTable, rfl, #[], more, rfl, by rw [Array.empty_append]; rw [Array.empty_append] at z'; exact z'⟩)
          · have z := un.frzs b _ _ q
            obtain ⟨e2, _⟩ := hok' b _ z
            rw [e] at e'
            cases e'
            exact .inl e2
      · cases q : H b with
        | none => exact ⟨o, un.keep b o e q (fun z => absurd (show b ∈ ([] : List Addr) from z) (by simp)) (by simp)⟩
        | some u =>
          rcases on b u q with ⟨h1, rfl, e'⟩ | ⟨_, _, rfl, e'⟩
          · obtain ⟨more, z⟩ := un.tbls b #[] q
            exact ⟨_, hok' b _ z⟩
          · have z := un.frzs b _ _ q
            exact ⟨_, (hok' b _ z).1⟩
end
/-! ### the end of a law -/
theorem walk_G {l : PySem.W.OpenLaw} {n k : Nat} {q : Program} {loose : List Str} {XP : (Str → Option Value) → Heap → Prop} {YP : World → Heap → Prop} {d : DefRec} {x : Str} {m : FM}
    (hn : l.most = some n) (hn2 : n ≤ sizeLine) (hdf : d.params.defaults = []) (hr : Room k callerA)
    (pl : ∀ ns : List Int, ns.length ≤ n → (∀ z ∈ ns, Builtin.Int.intBits z ≤ 1048576) → ∃ μ, m [.scr (ns.map D.int)] [] = .ok (.bl true) μ)
    (F : ∀ (w : World) (mg : Str → Option Value) (fa : Addr) (h : Heap), YP w h → h.Ns mainGlobals mg → mg d.name = some (.ref fa) → ∃ (K : PySem.W.Frag) (fd : FuncData) (cs : List (Addr × Addr)) (T : List (Addr × Str)), K.In h ∧
      (∀ p ∈ cs, h.get? p.2 = some { cls := .none, data := .fields #[] }) ∧ (∀ p ∈ cs, K.lookup p.2 = none) ∧ (∀ p ∈ cs, PySem.W.CodeHd h p.1 p.2) ∧ (∀ q ∈ T, ∃ c, (c, q.1) ∈ cs) ∧ (∀ (s : Shared) (u : Value), BindsTo s fd ⟨[u], []⟩ [(x, u)]) ∧
      ∀ base : Heap, K.In base → base.Ns mainGlobals mg → (∀ p ∈ cs, TabB base mg p.1 p.2) → FnG l.prog w K mg base k fa fd [x] (spM K mg T 1 m)) :
    PySem.W.WalkO q loose XP YP l.row.toRowW d [] (fun f vs => PySem.call f vs) := by
  refine Att.attach_callB hn hdf fun w s₀ s₁ mg mb fa o pm cd doc a vs ns G Y ho hd hcd hmg hobj hints hlen hbits hg => ?_
  obtain ⟨K, fd, cs, T, KX, hT, nT, C, hTc, hb, hF⟩ := F w mg fa _ Y G.T.g hmg
  refine law_callG KX G.T.g G.T.b G.T.builtins G.T.nolimit hg hT nT C G.T.bmain hobj hints (Nat.le_trans hlen hn2) hr hF hb fun H hH hS => ?_
  obtain ⟨μ, hm⟩ := pl ns hlen hbits
  refine ⟨rfl, ⟨0, fun _ => 0, fun b => match H b with
    | some (.tbl _) => none
    | o => o, fun _ => none, fun _ => none⟩, [], [.scr (ns.map D.int)], ?_, ?_, ?_⟩
  · refine ⟨rfl, fun b u h => ?_, (fun b u h => nomatch h), (fun b u h => nomatch h), (fun b u h => nomatch h), (fun b u h => nomatch h), fun l b h => by simp at h, fun l h => by simp at h, fun l l' h => absurd h (Nat.not_lt_zero _), fun q hq => ?_, fun b ps h => ?_⟩
    · simp only at h
      split at h
      · cases h
      · exact h
    · obtain ⟨c, hc⟩ := hTc q hq
      refine ⟨#[], hH _ hc, ?_, fun pos cv z => ?_⟩
      · exact trivial
      · cases z
    · simp only at h
      split at h
      · cases h
      · next hn => exact hn ps h
  · refine .cons (.scr (vs := ns.map V.int) (.inl ?_) ?_) .nil
    · rcases hS with (hS | ⟨o, hS⟩) | hS
      · exact .inl (.inl (by simp only [hS]))
      · exact .inl (.inr ⟨o, by simp only [hS]⟩)
      · exact .inr hS
    · clear hlen hbits hm hS hints
      induction ns with
      | nil => exact .nil
      | cons z zs ih => exact .cons (.int z) ih
  · rw [hm]
    intro w' v H' le rm rd
    cases rd
    rfl
end Kw

set_option Elab.async false
set_option linter.all false
set_option maxRecDepth 100000
namespace Kw
open PySem PySem.Spec PyProof.Rows L2 LamX

/-! ### a def by its statement in the text -/
def permL {α : Type} (idx : List Nat) (l : List α) : List α := idx.filterMap (l[·]?)
abbrev FnP (K : PySem.W.Frag) (x : Str) (st : Stmt) (f : Addr) (fd : FuncData) : Prop := FunD K x x (defArgs st) (defBody st) (defScope st) [] [] f fd
/-- the def x does what m says -/
structure CalD (P : Program) (w : World) (K : PySem.W.Frag) (mg : Str → Option Value) (base : Heap) (T : List (Addr × Str)) (x : Str) (st : Stmt) (k : Nat) (ps : List Str) (m : FM) : Prop where
  ex : ∃ f fd, FnP K x st f fd ∧ mg x = some (.ref f) ∧ Binds K fd ps [] ∧ FnG P w K mg base k f fd ps (spM K mg T ps.length m)
section
variable {P : Program} {w : World} {K : PySem.W.Frag} {mg : Str → Option Value} {base : Heap} {T : List (Addr × Str)} {x : Str} {st : Stmt} {k : Nat} {ps : List Str} {m : FM} {f : Addr} {fd : FuncData}
theorem CalD.mk' (F : FnP K x st f fd) (hm : mg x = some (.ref f)) (hb : ∀ (kV doc pm : Value) (an : Option Addr) (cdv ct : Value) (us : List Value), us.length = ps.length → bindArgs (PySem.W.fnOf x x (defArgs st) (defBody st) (defScope st) .none kV doc pm an cdv ct) ⟨us, []⟩ = pure (ps.zip us))
    (h : FnG P w K mg base k f fd ps (spM K mg T ps.length m)) : CalD P w K mg base T x st k ps m := ⟨f, fd, F, hm, F.bindsN hb, h⟩
theorem FnP.bindsK {ks : List Str} {idx : List Nat} {a b : Nat} (F : FnP K x st f fd) (hb : ∀ (kV doc pm : Value) (an : Option Addr) (cdv ct : Value) (us ws : List Value), us.length = a → ws.length = b → bindArgs (PySem.W.fnOf x x (defArgs st) (defBody st) (defScope st) .none kV doc pm an cdv ct) ⟨us, ks.zip ws⟩ = pure (ps.zip (permL idx (us ++ ws))))
    (s : Shared) (us ws : List Value) (h1 : us.length = a) (h2 : ws.length = b) : BindsTo s fd ⟨us, ks.zip ws⟩ (ps.zip (permL idx (us ++ ws))) := by
  obtain ⟨oc, od, dV, kV, doc, pm, an, cdv, ct, osl, rfl, lk, hcd, hD, hK⟩ := F.ex
  rcases hD with ⟨_, rfl⟩ | ⟨e, _⟩
  · exact .of_eq (hb kV doc pm an cdv ct us ws h1 h2)
  · exact absurd rfl e
theorem permL_rel {w : Wd} : ∀ (idx : List Nat) {ds : List D} {vs : List V}, RelDs K mg w ds vs → RelDs K mg w (permL idx ds) (permL idx vs)
  | [], _, _, _ => .nil
  | i :: idx, ds, vs, h => by
    have ih := permL_rel idx h
    unfold permL at ih ⊢
    rw [List.filterMap_cons, List.filterMap_cons]
    cases e : ds[i]? with
    | none =>
      have : vs[i]? = none := by
        rw [List.getElem?_eq_none_iff] at e ⊢
        rw [← h.length]; exact e
      rw [this]
      exact ih
    | some d =>
      obtain ⟨v, hv, rv⟩ := h.get e
      rw [hv]
      exact .cons rv ih
theorem permL_vals : ∀ (idx : List Nat) {ds : List V} {vs : List Value}, Vals ds vs → Vals (permL idx ds) (permL idx vs)
  | [], _, _, _ => .nil
  | i :: idx, ds, vs, h => by
    have ih := permL_vals idx h
    unfold permL at ih ⊢
    rw [List.filterMap_cons, List.filterMap_cons]
    cases e : ds[i]? with
    | none =>
      have : vs[i]? = none := by
        rw [List.getElem?_eq_none_iff] at e ⊢
        rw [← h.length]; exact e
      rw [this]
      exact ih
    | some d =>
      obtain ⟨v, hv, rv⟩ := h.get e
      rw [hv]
      exact .cons rv ih
end
section
variable {X : Cx} {S : SI} {W : WX} {k j n a b : Nat} {ps ks : List Str} {x : Str} {p pos : Pos} {e : Expr} {es : List Expr} {kws : List Keyword} {mr mk : AM} {m : FM} {st : Stmt} {idx : List Nat}
/-- exceptions: none may come; or they are taken -/
theorem pass0 : ∀ σ, PassesAt (L2.CX X.prog X.w) X σ (WE W0 σ) := fun σ pins H s e s' I c => by
  obtain ⟨_, _, _, _, _, _, _, _, _, _, _, _, z⟩ := c
  exact z.elim
theorem passT (tk : Takes X W) : ∀ σ, PassesAt (L2.CX X.prog X.w) X σ (WE W σ) := passAt tk
theorem pe_P (C : CalD X.prog X.w X.K X.mg X.base S.T x st k ps m) (hx : ∀ σ, PassesAt (L2.CX X.prog X.w) X σ (WE W σ)) (hr : Room j X.A) (hk : k ≤ j) (hgd : X.A.guards = some []) (hg : Gl X x) (ha : PA X (e :: es) (TAm X S W mr)) (hn : ∀ δ μ ds μ', mr δ μ = .ok ds μ' → ds.length = ps.length) (hl : (e :: es).length = ps.length)
    (hdb : (x == ("__debug__" : Str)) = false := by decide) (he : starEach (e :: es) X.env = (false, eval e X.env) :: starEach es X.env := by rfl) (hpl : (backTo pos (starEach es X.env)).any (·.1) = false := by rfl) :
    PE X (.Call (.Name x p) (e :: es) [] pos) (TEm X S W <| eCallP m mr) := by
  obtain ⟨f, fd, F, hm, hb, G⟩ := C.ex
  exact pe_callP (fun t ht => pe_G G (hr.mono hk) hgd hg hm F.kp hb hx ht hdb he hpl) hl ha hn
theorem pe_M (C : CalD X.prog X.w X.K X.mg X.base S.T x st k ps m) (hx : ∀ σ, PassesAt (L2.CX X.prog X.w) X σ (WE W σ)) (hr : Room j X.A) (hk : k ≤ j) (hgd : X.A.guards = some []) (hg : Gl X x) (ha : PA X (e :: es) (TAm X S W mr)) (hn : ∀ δ μ ds μ', mr δ μ = .ok ds μ' → ds.length = ps.length) (hl : (e :: es).length = ps.length)
    (hdb : (x == ("__debug__" : Str)) = false := by decide) (he : starEach (e :: es) X.env = (false, eval e X.env) :: starEach es X.env := by rfl) (hpl : (backTo pos (starEach es X.env)).any (·.1) = false := by rfl) :
    PE X (.Call (.Name x p) (e :: es) [] pos) (TEm X S W <| eCallM m mr) := by
  obtain ⟨f, fd, F, hm, hb, G⟩ := C.ex
  exact pe_callM (fun t ht => pe_G G (hr.mono hk) hgd hg hm F.kp hb hx ht hdb he hpl) hl ha hn
/-- f() -/
def eCall0 (m : FM) : EM := fun _ μ => callP m [] μ
theorem pe_P0 (C : CalD X.prog X.w X.K X.mg X.base S.T x st k [] m) (hx : ∀ σ, PassesAt (L2.CX X.prog X.w) X σ (WE W σ)) (hr : Room j X.A) (hk : k ≤ j) (hgd : X.A.guards = some []) (hg : Gl X x) (hdb : (x == ("__debug__" : Str)) = false := by decide) :
    PE X (.Call (.Name x p) [] [] pos) (TEm X S W <| eCall0 m) := by
  obtain ⟨f, fd, F, hm, hb, G⟩ := C.ex
  exact PEi (pe_G0 G (hr.mono hk) hgd hg hm F.kp hb hx hdb) fun σ H Q ⟨w, δ, μ, h⟩ => sp_callP rfl h.2.1 .nil h.2.2
/-- f(.., k = v, ..) -/
def eCallK (m : FM) (idx : List Nat) (ma mk : AM) : EM := fun δ μ => (ma δ μ).bind fun ds μ1 => (mk δ μ1).bind fun es μ2 => callP m (permL idx (ds ++ es)) μ2
theorem pe_callK' {e' : Expr} (h : ∀ t tk, PA X es t → PK X kws tk → PE X e' (fun σ H Q => t σ H fun vs H1 => tk σ H1 fun zs H2 => vs.length = a ∧ zs.length = b ∧ spM X.K X.mg S.T n m (permL idx (vs ++ zs)) H2 Q (WE W σ))) (hi : ∀ ds : List D, ds.length = a + b → (permL idx ds).length = n)
    (ha : PA X es (TAm X S W mr)) (hk : PK X kws (TAm X S W mk)) (hn : ∀ δ μ ds μ', mr δ μ = .ok ds μ' → ds.length = a) (hn2 : ∀ δ μ ds μ', mk δ μ = .ok ds μ' → ds.length = b) : PE X e' (TEm X S W <| eCallK m idx mr mk) :=
  PEi (h _ _ ha hk) fun σ H Q ⟨w, δ, μ, h⟩ => ⟨w, δ, μ, by
    refine ⟨h.1, h.2.1, ?_⟩
    have h3 := h.2.2
    unfold eCallK at h3
    cases e : mr δ μ with
    | stuck => rw [e] at h3; exact h3.elim
    | exc x μ' => rw [e] at h3; exact h3
    | ok ds μ' =>
      rw [e] at h3
      intro w' vs H' le rm rs
      refine ⟨w', δ, μ', h.1.mono le, rm, ?_⟩
      have h4 : ((mk δ μ').bind fun es μ2 => callP m (permL idx (ds ++ es)) μ2).to _ _ := h3
      cases e2 : mk δ μ' with
      | stuck => rw [e2] at h4; exact h4.elim
      | exc x μ2 => rw [e2] at h4; exact fun w2 c d H2 le2 => h4 w2 c d H2 (le.trans le2)
      | ok es μ2 =>
        rw [e2] at h4
        intro w2 us H2 le2 rm2 rs2
        have l1 := hn _ _ _ _ e
        have l2 := hn2 _ _ _ _ e2
        have rr := permL_rel idx ((rs.mono le2).append rs2)
        refine ⟨by rw [← rs.length]; exact l1, by rw [← rs2.length]; exact l2, sp_callP (by rw [← rr.length]; exact hi _ (by rw [List.length_append, l1, l2])) rm2 rr ?_⟩
        exact Out.to_mono h4 (fun d μ2 q w3 v2 H2 le3 => q w3 v2 H2 ((le.trans le2).trans le3)) fun x μ2 q w3 c d H2 le3 => q w3 c d H2 ((le.trans le2).trans le3)⟩
theorem pe_K (C : CalD X.prog X.w X.K X.mg X.base S.T x st k ps m) (hb : ∀ (kV doc pm : Value) (an : Option Addr) (cdv ct : Value) (us ws : List Value), us.length = a → ws.length = b → bindArgs (PySem.W.fnOf x x (defArgs st) (defBody st) (defScope st) .none kV doc pm an cdv ct) ⟨us, ks.zip ws⟩ = pure (ps.zip (permL idx (us ++ ws))))
    (hi : ∀ ds : List D, ds.length = a + b → (permL idx ds).length = ps.length) (hx : ∀ σ, PassesAt (L2.CX X.prog X.w) X σ (WE W σ)) (hr : Room j X.A) (hk : k ≤ j) (hgd : X.A.guards = some []) (hg : Gl X x) (ha : PA X (e :: es) (TAm X S W mr)) (hkw : PK X kws (TAm X S W mk))
    (hn : ∀ δ μ ds μ', mr δ μ = .ok ds μ' → ds.length = a) (hn2 : ∀ δ μ ds μ', mk δ μ = .ok ds μ' → ds.length = b)
    (hall : (backToKw pos (keywordEach kws X.env)).all (·.1.isSome) = true := by rfl) (hks : (backToKw pos (keywordEach kws X.env)).filterMap (·.1) = ks := by rfl)
    (hdb : (x == ("__debug__" : Str)) = false := by decide) (he : starEach (e :: es) X.env = (false, eval e X.env) :: starEach es X.env := by rfl)
    (hpl : ((backTo pos (starEach (e :: es) X.env)).any (·.1) || (backToKw pos (keywordEach kws X.env)).any (·.1.isNone)) = false := by rfl) :
    PE X (.Call (.Name x p) (e :: es) kws pos) (TEm X S W <| eCallK m idx mr mk) := by
  obtain ⟨f, fd, F, hm, _, G⟩ := C.ex
  refine pe_callK' (n := ps.length) (fun t tk ht htk => ⟨fun pins s σ H Q I h => ?_⟩) hi ha hkw hn hn2
  refine wpAny_Call_Name_kw (ld_glob I hg hm ?_ hdb)
  refine PySem.W.callWith_KW (h₀ := X.base) I.ok.mod.kin F.kp hall (thn (ht.run pos pins s σ H _ I h) fun us s1 ⟨vs, H1, I1, r, q⟩ => ?_) hpl he
  refine thn (htk.run pos pins s1 σ H1 _ I1 q) fun ws s2 ⟨zs, H2, I2, rz, l1, l2, q2⟩ => ⟨I2.kIn, ?_⟩
  rw [hks]
  exact call_of (run_G G (hr.mono hk) hgd (hx σ) I2 (F.bindsK hb s2 us ws (by rw [← r.length]; exact l1) (by rw [← rz.length]; exact l2)) (permL_vals idx (r.append rz)) q2)
def eCallK0 (m : FM) (idx : List Nat) (mk : AM) : EM := fun δ μ => (mk δ μ).bind fun es μ2 => callP m (permL idx es) μ2
theorem pe_K0 (C : CalD X.prog X.w X.K X.mg X.base S.T x st k ps m) (hb : ∀ (kV doc pm : Value) (an : Option Addr) (cdv ct : Value) (us ws : List Value), us.length = 0 → ws.length = b → bindArgs (PySem.W.fnOf x x (defArgs st) (defBody st) (defScope st) .none kV doc pm an cdv ct) ⟨us, ks.zip ws⟩ = pure (ps.zip (permL idx (us ++ ws))))
    (hi : ∀ ds : List D, ds.length = b → (permL idx ds).length = ps.length) (hx : ∀ σ, PassesAt (L2.CX X.prog X.w) X σ (WE W σ)) (hr : Room j X.A) (hk : k ≤ j) (hgd : X.A.guards = some []) (hg : Gl X x) (hkw : PK X kws (TAm X S W mk))
    (hn2 : ∀ δ μ ds μ', mk δ μ = .ok ds μ' → ds.length = b)
    (hall : (backToKw pos (keywordEach kws X.env)).all (·.1.isSome) = true := by rfl) (hks : (backToKw pos (keywordEach kws X.env)).filterMap (·.1) = ks := by rfl)
    (hdb : (x == ("__debug__" : Str)) = false := by decide)
    (hpl : ((backTo pos (starEach [] X.env)).any (·.1) || (backToKw pos (keywordEach kws X.env)).any (·.1.isNone)) = false := by rfl) :
    PE X (.Call (.Name x p) [] kws pos) (TEm X S W <| eCallK0 m idx mk) := by
  obtain ⟨f, fd, F, hm, _, G⟩ := C.ex
  have h0 : PE X (.Call (.Name x p) [] kws pos) (fun σ H Q => TAm X S W mk σ H fun zs H2 => zs.length = b ∧ spM X.K X.mg S.T ps.length m (permL idx zs) H2 Q (WE W σ)) := by
    refine ⟨fun pins s σ H Q I h => ?_⟩
    refine wpAny_Call_Name_kw (ld_glob I hg hm ?_ hdb)
    refine PySem.W.callWith_KW0 (h₀ := X.base) I.ok.mod.kin F.kp hall ?_ hpl
    refine thn (hkw.run pos pins s σ H _ I h) fun ws s2 ⟨zs, H2, I2, rz, l2, q2⟩ => ⟨I2.kIn, ?_⟩
    rw [hks]
    exact call_of (run_G G (hr.mono hk) hgd (hx σ) I2 (F.bindsK hb s2 [] ws rfl (by rw [← rz.length]; exact l2)) (permL_vals idx rz) q2)
  exact PEi h0 fun σ H Q ⟨w, δ, μ, h⟩ => ⟨w, δ, μ, by
    refine ⟨h.1, h.2.1, ?_⟩
    have h3 := h.2.2
    unfold eCallK0 at h3
    cases e : mk δ μ with
    | stuck => rw [e] at h3; exact h3.elim
    | exc x μ' => rw [e] at h3; exact h3
    | ok es μ' =>
      rw [e] at h3
      intro w' us H' le rm rs
      have l2 := hn2 _ _ _ _ e
      have rr := permL_rel idx rs
      refine ⟨by rw [← rs.length]; exact l2, sp_callP (by rw [← rr.length]; exact hi _ l2) rm rr ?_⟩
      exact Out.to_mono h3 (fun d μ2 q w3 v2 H2 le3 => q w3 v2 H2 (le.trans le3)) fun x μ2 q w3 c d H2 le3 => q w3 c d H2 (le.trans le3)⟩
end
end Kw

set_option Elab.async false
set_option linter.all false
set_option maxRecDepth 100000
namespace Kw
open PySem PySem.Spec PyProof.Rows L2
/-! ### small things for the printed texts -/
/-- a module's name -/
def GlD (K : PySem.W.Frag) (mg : Str → Option Value) (x : Str) (d : D) : Prop := ∃ v u, mg x = some u ∧ RelV v u ∧ ∀ w, RelD K mg w d v
theorem GlD.int {K : PySem.W.Frag} {mg : Str → Option Value} {x : Str} {i : Int} (h : ∃ t, mg x = some (.int i t)) : GlD K mg x (.int i) := by
  obtain ⟨t, h⟩ := h
  exact ⟨.int i, _, h, ⟨t, rfl⟩, fun w => .int i⟩
theorem ints_rel {K : PySem.W.Frag} {mg : Str → Option Value} {w : Wd} : ∀ ns : List Int, RelDs K mg w (ns.map D.int) (ns.map V.int)
  | [] => .nil
  | n :: ns => .cons (.int n) (ints_rel ns)
theorem GlD.tupI {K : PySem.W.Frag} {mg : Str → Option Value} {x : Str} {a : Addr} {vs : List V} {ds : List D} (h : mg x = some (.ref a)) (hs : ∀ H, SqT K H a vs) (hv : vs = (((intsOf ds).getD []).map V.int)) (hd : ds = ((intsOf ds).getD []).map D.int := by rfl) : GlD K mg x (.tup ds) :=
  ⟨.ref a, _, h, rfl, fun w => .tup (hs _) (by
    rw [hv]
    have := ints_rel (K := K) (mg := mg) (w := w) ((intsOf ds).getD [])
    rwa [← hd] at this)⟩
def gNeg : D → Mem → Option D
  | .int i, _ => some (.int (-i))
  | _, _ => none
def gAddI : D → D → Mem → Option D
  | .int i, .int j, _ => some (.int (i + j))
  | _, _, _ => none
section
variable {K : PySem.W.Frag} {mg : Str → Option Value} {T : List (Addr × Str)} {x y : V} {H : Hp} {Q : VK}
theorem addI_r (h : rD2 K mg T gAddI x y H Q) : rI0 (fun i j => .int (i + j)) x y H Q := by
  obtain ⟨w, μ, dx, dy, d, r, rx, ry, e, q⟩ := h
  unfold gAddI at e
  split at e
  · cases rx; cases ry; cases e
    exact ⟨_, _, rfl, rfl, q.same r (.int _)⟩
  · cases e
end
theorem u64 {k : Nat} {A : Around} (r : Room k A) : A.units + 64 < cLine := r.units
theorem u65 {k : Nat} {A : Around} (r : Room k A) : A.units + 65 < cLine := by have := r.un; omega
theorem u200 {k : Nat} {A : Around} (r : Room k A) : A.units + 200 < cLine := by have := r.un; omega
section
variable {X : Cx} {S : SI} {W : WX} {a : Expr} {ma : EM} {pos : Pos} {x : Str} {i : Nat} {d : D}
theorem pv' (i : Nat) (hN : X.N[i]? = some x := by rfl) (hv : Vis X.env.scope x := by first | exact Or.inl rfl | exact Or.inr (Or.inl rfl) | exact Or.inr (Or.inr rfl)) (hd : (x == ("__debug__" : Str)) = false := by decide)
    (hcd : (x == ("__classdict__" : Str)) = false := by decide) : PE X (.Name x pos) (TEm X S W (eVar i)) := pe_var' hN hv hd hcd
theorem pe_gD (hg : Gl X x) (h : GlD X.K X.mg x d) (hd : (x == ("__debug__" : Str)) = false := by decide) : PE X (.Name x pos) (TEm X S W (eC d)) := by
  obtain ⟨v, u, hm, r, rd⟩ := h
  exact pe_C' (pe_glob hg hm r hd) rd
theorem pa_ty0 : PA X [] (fun _ H Q => Q (([] : List String).map V.ty) H) := pa_nil
theorem pa_tyS {e : Expr} {es : List Expr} {n : String} {ns : List String} (h : PE X e (tC (.ty n))) (h2 : PA X es (fun _ H Q => Q (ns.map V.ty) H)) (hs : starEach (e :: es) X.env = (false, eval e X.env) :: starEach es X.env := by rfl) : PA X (e :: es) (fun _ H Q => Q ((n :: ns).map V.ty) H) := pa_cons h h2 hs
theorem pe_neg' (ha : PE X a (TEm X S W ma)) : PE X (.UnaryOp .USub a pos) (TEm X S W <| e1 gNeg ma) :=
  pe_1 (r := rU fun i => .int (-i)) (fun t h => pe_un un_neg h) (fun x H Q ⟨w, μ, dx, d, r, rx, e, q⟩ => by
    unfold gNeg at e
    split at e
    · cases rx; cases e
      exact ⟨_, rfl, q.same r (.int _)⟩
    · cases e) ha
end
end Kw

set_option Elab.async false
set_option linter.all false
set_option maxRecDepth 100000
namespace Kw
open PySem PySem.Spec PyProof.Rows L2
/-! ### running the plain functions -/
/-- a rewriting that the kernel is not asked to find again -/
theorem nr {α : Sort _} {a b : α} (h : a = b) : a = b := h
section
variable {α β : Type} {a : α} {μ μ1 μ2 : Mem} {x : Xn} {f : α → Mem → Out β} {k : α → Mem → SOut} {δ δ1 : Sv} {d e : D} {b : Bool}
@[simp] theorem bind_ok : (Out.ok a μ).bind f = f a μ := nr rfl
@[simp] theorem bind_exc : (Out.exc x μ : Out α).bind f = .exc x μ := nr rfl
@[simp] theorem bind_stuck : (Out.stuck : Out α).bind f = .stuck := nr rfl
@[simp] theorem bindS_ok : (Out.ok a μ).bindS δ k = k a μ := nr rfl
@[simp] theorem bindS_exc : (Out.exc x μ : Out α).bindS δ k = .exc x δ μ := nr rfl
@[simp] theorem bindS_stuck : (Out.stuck : Out α).bindS δ k = .stuck := nr rfl
@[simp] theorem oOf_some : oOf (some d) μ = .ok d μ := nr rfl
@[simp] theorem oOf_none : oOf none μ = .stuck := nr rfl
@[simp] theorem oOfM_some : oOfM (some (d, μ)) = .ok d μ := nr rfl
@[simp] theorem bOf_some : bOf (some b) μ = .ok b μ := nr rfl
@[simp] theorem eC_run : eC d δ μ = .ok d μ := nr rfl
@[simp] theorem then_nx {k : Sv → Mem → SOut} : (SOut.nx δ μ).then k = k δ μ := nr rfl
@[simp] theorem then_ret {k : Sv → Mem → SOut} : (SOut.ret d μ).then k = .ret d μ := nr rfl
@[simp] theorem sSeq_run {m1 m2 : SM} : sSeq m1 m2 δ μ = (m1 δ μ).then m2 := nr rfl
@[simp] theorem sNext_run : sNext δ μ = .nx δ μ := nr rfl
@[simp] theorem aNil_run : aNil δ μ = .ok [] μ := nr rfl
@[simp] theorem aCons_run {ma : EM} {mr : AM} : aCons ma mr δ μ = (ma δ μ).bind fun x μ1 => (mr δ μ1).bind fun xs μ2 => .ok (x :: xs) μ2 := nr rfl
@[simp] theorem e1_run {g : D → Mem → Option D} {ma : EM} : e1 g ma δ μ = (ma δ μ).bind fun x μ1 => oOf (g x μ1) μ1 := nr rfl
@[simp] theorem e2_run {g : D → D → Mem → Option D} {ma mb : EM} : e2 g ma mb δ μ = (ma δ μ).bind fun x μ1 => (mb δ μ1).bind fun y μ2 => oOf (g x y μ2) μ2 := nr rfl
@[simp] theorem eAs_run {g : List D → Mem → Option D} {ma : AM} : eAs g ma δ μ = (ma δ μ).bind fun xs μ1 => oOf (g xs μ1) μ1 := nr rfl
@[simp] theorem eAsM_run {g : List D → Mem → Option (D × Mem)} {ma : AM} : eAsM g ma δ μ = (ma δ μ).bind fun xs μ1 => oOfM (g xs μ1) := nr rfl
@[simp] theorem tTru_run {ma : EM} : tTru ma δ μ = (ma δ μ).bind fun x μ1 => bOf (truD μ1 x) μ1 := nr rfl
@[simp] theorem tNot_run {mt : TM} : tNotM mt δ μ = (mt δ μ).bind fun b μ1 => .ok (!b) μ1 := nr rfl
@[simp] theorem tAnd_run {ma mb : TM} : tAndM ma mb δ μ = (ma δ μ).bind fun b μ1 => if b = true then mb δ μ1 else .ok false μ1 := nr rfl
@[simp] theorem tOr_run {ma mb : TM} : tOrM ma mb δ μ = (ma δ μ).bind fun b μ1 => if b = true then .ok true μ1 else mb δ μ1 := nr rfl
@[simp] theorem tBl_run {m : EM} : tBl m δ μ = (m δ μ).bind fun d μ1 => match d with
  | .bl b => .ok b μ1
  | _ => .stuck := nr rfl
@[simp] theorem tYes_run : tYesM δ μ = .ok true μ := nr rfl
@[simp] theorem eNot_run {ma : EM} : eNotM ma δ μ = (ma δ μ).bind fun x μ1 => (bOf (truD μ1 x) μ1).bind fun b μ2 => .ok (.bl !b) μ2 := nr rfl
@[simp] theorem eAnd_run {ma mb : EM} : eAndM ma mb δ μ = (ma δ μ).bind fun x μ1 => (bOf (truD μ1 x) μ1).bind fun b μ2 => if b = true then mb δ μ2 else .ok x μ2 := nr rfl
@[simp] theorem eOr_run {ma mb : EM} : eOrM ma mb δ μ = (ma δ μ).bind fun x μ1 => (bOf (truD μ1 x) μ1).bind fun b μ2 => if b = true then .ok x μ2 else mb δ μ2 := nr rfl
@[simp] theorem eIf_run {mt : TM} {ma mb : EM} : eIfM mt ma mb δ μ = (mt δ μ).bind fun b μ1 => if b = true then ma δ μ1 else mb δ μ1 := nr rfl
@[simp] theorem sRet_run {ma : EM} : sRet ma δ μ = (ma δ μ).bindS δ fun d μ1 => .ret d μ1 := nr rfl
@[simp] theorem sDrop_run {ma : EM} : sDrop ma δ μ = (ma δ μ).bindS δ fun _ μ1 => .nx δ μ1 := nr rfl
@[simp] theorem sIf_run {mt : TM} {m1 m2 : SM} : sIf mt m1 m2 δ μ = (mt δ μ).bindS δ fun k μ1 => if k = true then m1 δ μ1 else m2 δ μ1 := nr rfl
@[simp] theorem sAsg_run {ma : EM} {g : GM} : sAsg ma g δ μ = (ma δ μ).bindS δ fun d μ1 => g d δ μ1 := nr rfl
@[simp] theorem gNm_run {i : Nat} : gNm i d δ μ = .nx (δ.set i (some d)) μ := nr rfl
@[simp] theorem sPar_run {i j : Nat} {ma : AM} : sPar i j ma δ μ = (ma δ μ).bindS δ fun ds μ1 => match ds with
  | [a, b] => .nx ((δ.set i (some a)).set j (some b)) μ1
  | _ => .stuck := nr rfl
@[simp] theorem sFor_run {mi : IM} {g : GM} {b : SM} : sFor mi g b δ μ = (mi δ μ).bindS δ fun items μ1 => loopS g b items δ μ1 := nr rfl
@[simp] theorem eCallP_run {m : FM} {ma : AM} : eCallP m ma δ μ = (ma δ μ).bind fun ds μ1 => callP m ds μ1 := nr rfl
@[simp] theorem eCallM_run {m : FM} {ma : AM} : eCallM m ma δ μ = (ma δ μ).bind fun ds μ1 => callM m ds μ1 := nr rfl
@[simp] theorem eCallK0_run {m : FM} {idx : List Nat} {mk : AM} : eCallK0 m idx mk δ μ = (mk δ μ).bind fun es μ2 => callP m (permL idx es) μ2 := nr rfl
@[simp] theorem gSubM_run {mo mi : EM} : gSubM mo mi d δ μ = (mo δ μ).bindS δ fun o μ1 => (mi δ μ1).bindS δ fun i μ2 => match gSet o i d μ2 with
  | some μ3 => .nx δ μ3
  | none => .stuck := nr rfl
@[simp] theorem eLc_run {mi : IM} {g : GM} {mt : TM} {me : EM} {vs : List Nat} : eLc mi g mt me vs δ μ = (mi δ μ).bind fun items μ1 => match lcL g mt me (wipeD δ vs) items μ1 with
  | .ok ys μ2 => if ys.length ≤ sizeLine then .ok (.lst ys) μ2 else .stuck
  | _ => .stuck := nr rfl
@[simp] theorem eMtL_run {g : D → List D → Mem → Option (D × Mem)} {mo : EM} {ma : AM} : eMtL g mo ma δ μ = (mo δ μ).bind fun x μ1 => if (lstX μ1 x).isSome = true then (ma δ μ1).bind fun xs μ2 => oOfM (g x xs μ2) else .stuck := nr rfl
@[simp] theorem gAdd_int {i j : Int} : gAdd (.int i) (.int j) μ = some (.int (i + j)) := nr rfl
@[simp] theorem gSub_int {i j : Int} : Kw.gSub (.int i) (.int j) μ = some (.int (i - j)) := nr rfl
@[simp] theorem gLt_int {i j : Int} : gLt (.int i) (.int j) μ = some (.bl (decide (i < j))) := nr rfl
@[simp] theorem gLe_int {i j : Int} : gLe (.int i) (.int j) μ = some (.bl (decide (i ≤ j))) := nr rfl
@[simp] theorem gGt_int {i j : Int} : gGt (.int i) (.int j) μ = some (.bl (decide (j < i))) := nr rfl
@[simp] theorem gGe_int {i j : Int} : gGe (.int i) (.int j) μ = some (.bl (decide (j ≤ i))) := nr rfl
theorem gMul_l {i j : Int} (h : -18446744073709551616 < i) (h2 : i < 18446744073709551616) : gMul (.int i) (.int j) μ = some (.int (i * j)) := if_pos (.inl (.inl ⟨by omega, h2⟩))
theorem gMul_r {i j : Int} (h : -18446744073709551616 < j) (h2 : j < 18446744073709551616) : gMul (.int i) (.int j) μ = some (.int (i * j)) := if_pos (.inl (.inr ⟨by omega, h2⟩))
theorem gMod_int {i j : Int} (h : 0 < j) : gMod (.int i) (.int j) μ = some (.int (i % j)) := if_pos h
theorem gFdv_int {i j : Int} (h : 0 < j) (h2 : j < 1073741824) : gFdv (.int i) (.int j) μ = some (.int (i / j)) := if_pos ⟨h, .inl h2⟩
theorem eqD_int {i j : Int} : eqD (.int i) (.int j) μ = some (i == j) := rfl
@[simp] theorem gEq_int {i j : Int} : gEq (.int i) (.int j) μ = some (.bl (i == j)) := nr rfl
@[simp] theorem gNe_int {i j : Int} : gNe (.int i) (.int j) μ = some (.bl (!(i == j))) := nr rfl
@[simp] theorem gNe_bl {i j : Bool} : gNe (.bl i) (.bl j) μ = some (.bl (!(i == j))) := nr rfl
@[simp] theorem gIsNot_bl {i j : Bool} : gIsNot (.bl i) (.bl j) μ = some (.bl (!decide (i = j))) := nr rfl
@[simp] theorem gIs_bl {i j : Bool} : gIs (.bl i) (.bl j) μ = some (.bl (decide (i = j))) := nr rfl
@[simp] theorem gInt_int {i : Int} : gInt [.int i] μ = some (.int i) := nr rfl
@[simp] theorem gAbs_int {i : Int} : gAbs [.int i] μ = some (.int (if i < 0 then -i else i)) := nr rfl
@[simp] theorem tru_bl : truD μ (.bl b) = some b := nr rfl
@[simp] theorem eCallP_def {m : FM} {ma : AM} : eCallP m ma δ μ = (ma δ μ).bind fun ds μ1 => callP m ds μ1 := nr rfl
end
/-! ### calls -/
theorem callP_ok {m : FM} {ds : List D} {μ μ' : Mem} {d : D} (h : m ds [] = .ok d μ') (hd : locBs false 0 ds = true) (hr : locB false 0 d = true) : callP m ds μ = .ok d μ := by
  unfold callP
  rw [if_pos hd, h]
  exact if_pos hr
theorem callP_lent {m : FM} {ds es : List D} {μ μ' : Mem} {d : D} (hd : locBs false 0 ds = false) (hf : frzWs (frzL μ 4) ds = some es) (h : m es [] = .ok d μ') (hr : locB true 0 d = true) : callP m ds μ = .ok d μ := by
  unfold callP
  rw [if_neg (by rw [hd]; decide), hf]
  simp only
  rw [h]
  exact if_pos hr
theorem callM_ok {m : FM} {ds : List D} {μ μ' : Mem} {d : D} (h : m ds μ = .ok d μ') (hl : μ'.length = μ.length) : callM m ds μ = .ok d μ' := by
  unfold callM
  rw [h]
  simp only
  split
  · rw [← hl, List.take_length]
  · rfl
theorem callM_new {m : FM} {ds : List D} {μ μ' : Mem} {l : Nat} (h : m ds μ = .ok (.loc l) μ') (hl : μ.length ≤ l) : callM m ds μ = .ok (.loc l) μ' := by
  unfold callM
  rw [h]
  simp only
  rw [if_neg]
  intro z
  rw [Bool.and_eq_true] at z
  have := z.1
  simp only [locB, decide_eq_true_eq] at this
  omega
/-! ### comprehensions, loops -/
theorem lcL_pure {g : GM} {mt : TM} {me : EM} {δ : Sv} {μ : Mem} {t : D → Bool} {f : D → D} : ∀ {items : List D}, (∀ d ∈ items, ∃ δ', g d δ μ = .nx δ' μ ∧ mt δ' μ = .ok (t d) μ ∧ (t d = true → me δ' μ = .ok (f d) μ)) → lcL g mt me δ items μ = .ok ((items.filter t).map f) μ
  | [], _ => rfl
  | d :: ds, h => by
    obtain ⟨δ', h1, h2, h3⟩ := h d List.mem_cons_self
    have ih := lcL_pure (fun e he => h e (List.mem_cons_of_mem _ he))
    unfold lcL
    rw [h1]
    simp only
    rw [h2]
    cases ht : t d with
    | true =>
      simp only
      rw [h3 ht]
      simp only
      rw [ih]
      simp [List.filter_cons, ht]
    | false =>
      simp only
      rw [ih]
      simp [List.filter_cons, ht]
theorem lcL_ints {g : GM} {mt : TM} {me : EM} {δ : Sv} {μ : Mem} {t : Int → Bool} {f : Int → D} : ∀ {is : List Int}, (∀ i ∈ is, ∃ δ', g (.int i) δ μ = .nx δ' μ ∧ mt δ' μ = .ok (t i) μ ∧ (t i = true → me δ' μ = .ok (f i) μ)) → lcL g mt me δ (is.map D.int) μ = .ok ((is.filter t).map f) μ
  | [], _ => rfl
  | d :: ds, h => by
    obtain ⟨δ', h1, h2, h3⟩ := h d List.mem_cons_self
    have ih := lcL_ints (fun e he => h e (List.mem_cons_of_mem _ he))
    rw [List.map_cons]
    unfold lcL
    rw [h1]
    simp only
    rw [h2]
    cases ht : t d with
    | true =>
      simp only
      rw [h3 ht]
      simp only
      rw [ih]
      simp [List.filter_cons, ht]
    | false =>
      simp only
      rw [ih]
      simp [List.filter_cons, ht]
theorem boolsOf_map {α : Type} (b : α → Bool) : ∀ l : List α, boolsOf (l.map fun i => D.bl (b i)) = some (l.map b)
  | [] => rfl
  | a :: l => by
    have := boolsOf_map b l
    simp [boolsOf, this]
theorem intsOf_map : ∀ l : List Int, intsOf (l.map D.int) = some l
  | [] => rfl
  | a :: l => by
    have := intsOf_map l
    simp [intsOf, this]
theorem loopS_nx {g : GM} {b : SM} {d : D} {ds : List D} {δ δ1 δ2 : Sv} {μ μ1 μ2 : Mem} (h1 : g d δ μ = .nx δ1 μ1) (h2 : b δ1 μ1 = .nx δ2 μ2) : loopS g b (d :: ds) δ μ = loopS g b ds δ2 μ2 := by
  conv => lhs; unfold loopS
  simp only [h1, h2]
theorem loopS_ct {g : GM} {b : SM} {d : D} {ds : List D} {δ δ1 δ2 : Sv} {μ μ1 μ2 : Mem} (h1 : g d δ μ = .nx δ1 μ1) (h2 : b δ1 μ1 = .ct δ2 μ2) : loopS g b (d :: ds) δ μ = loopS g b ds δ2 μ2 := by
  conv => lhs; unfold loopS
  simp only [h1, h2]
theorem loopS_ret {g : GM} {b : SM} {d v : D} {ds : List D} {δ δ1 : Sv} {μ μ1 μ2 : Mem} (h1 : g d δ μ = .nx δ1 μ1) (h2 : b δ1 μ1 = .ret v μ2) : loopS g b (d :: ds) δ μ = .ret v μ2 := by
  conv => lhs; unfold loopS
  simp only [h1, h2]
theorem loopS_inv {g : GM} {b : SM} {I : Sv → Mem → Prop} : ∀ {items : List D} {δ : Sv} {μ : Mem}, (∀ d ∈ items, ∀ δ μ, I δ μ → ∃ δ1 δ2 μ2, g d δ μ = .nx δ1 μ ∧ (b δ1 μ = .nx δ2 μ2 ∨ b δ1 μ = .ct δ2 μ2) ∧ I δ2 μ2) → I δ μ → ∃ δ' μ', loopS g b items δ μ = .nx δ' μ' ∧ I δ' μ'
  | [], δ, μ, _, hi => ⟨δ, μ, rfl, hi⟩
  | d :: ds, δ, μ, h, hi => by
    obtain ⟨δ1, δ2, μ2, h1, h2, h3⟩ := h d List.mem_cons_self δ μ hi
    obtain ⟨δ', μ', h4, h5⟩ := loopS_inv (items := ds) (fun e he => h e (List.mem_cons_of_mem _ he)) h3
    refine ⟨δ', μ', ?_, h5⟩
    unfold loopS
    rw [h1]
    simp only
    rcases h2 with h2 | h2 <;> rw [h2] <;> exact h4
theorem seq_ex {m1 m2 : SM} {δ δ1 : Sv} {μ μ1 : Mem} {Q : Sv → Mem → Prop} (h : m1 δ μ = .nx δ1 μ1) (h2 : ∃ δ2 μ2, m2 δ1 μ1 = .nx δ2 μ2 ∧ Q δ2 μ2) : ∃ δ2 μ2, sSeq m1 m2 δ μ = .nx δ2 μ2 ∧ Q δ2 μ2 := by
  obtain ⟨δ2, μ2, e, q⟩ := h2
  exact ⟨δ2, μ2, by rw [sSeq_run, h]; exact e, q⟩
/-! ### the law's box: its list lies at l, its two numbers are as wanted -/
def Box (μ : Mem) (l : Nat) : Prop := ∃ g x : Int, μ[l]? = some (.lst [.int g, .int x]) ∧ 0 ≤ g ∧ 1 ≤ x ∧ x ≤ 2147483647
/-- the places but l stay -/
def Stay (l : Nat) (μ μ' : Mem) : Prop := μ'.length = μ.length ∧ ∀ i, i ≠ l → μ'[i]? = μ[i]?
theorem Stay.refl (l : Nat) (μ : Mem) : Stay l μ μ := ⟨rfl, fun _ _ => rfl⟩
theorem Stay.trans {l : Nat} {a b c : Mem} (x : Stay l a b) (y : Stay l b c) : Stay l a c := ⟨y.1.trans x.1, fun i h => (y.2 i h).trans (x.2 i h)⟩
theorem Stay.set (l : Nat) (μ : Mem) (b : Ob) : Stay l μ (μ.set l b) := ⟨List.length_set .., fun i h => List.getElem?_set_ne fun e => h e.symm⟩
end Kw

set_option Elab.async false
set_option linter.all false
set_option maxRecDepth 100000
namespace Kw
open PySem PySem.Spec PyProof.Rows L2

/-! ### zip and enumerate of lists and tuples alike -/
/-- a list (false), a tuple (true) -/
def Src (K : PySem.W.Frag) (k : Bool) (H : Hp) (a : Addr) (xs : List V) : Prop := match k with
  | true => SqT K H a xs
  | false => SqL K H a xs
def ItAt (k : Bool) (h : Heap) (it a : Addr) (i : Nat) : Prop := match k with
  | true => h.IsTupleIter it a i
  | false => h.IsListIter it a i
def Holds (k : Bool) (h : Heap) (a : Addr) (items : Array Value) : Prop := match k with
  | true => h.IsTuple a items
  | false => h.IsList a items
theorem draws_k {prog : Program} {w : World} {A : Around} (k : Bool) (hh : A.handled = none) (it a : Addr) (hne : a ≠ it) (items : Array Value) :
    Draws prog w A it [it, a] items.size (fun i v => items[i]? = some v) (fun i h => ItAt k h it a i ∧ Holds k h a items) := by
  cases k
  · exact Draws.list hh it a hne items
  · exact Draws.tuple hh it a hne items
def itO (k : Bool) (a : Addr) : Obj := match k with
  | true => { cls := .type "tuple_iterator", data := .fields #[.ref a, .int 0 0] }
  | false => { cls := .type "list_iterator", data := .fields #[.ref a, .int 0 0] }
theorem begins_k (k : Bool) (a : Addr) (items : Array Value) : Begins (.ref a) (itO k a) fun h => Holds k h a items := by
  cases k
  · exact begins_list a items
  · exact begins_tuple a items
theorem itAt_new {k : Bool} {h : Heap} {it a : Addr} (e : h.get? it = some (itO k a)) : ItAt k h it a 0 := by
  cases k
  · exact ⟨_, e, rfl, rfl⟩
  · exact ⟨_, e, rfl, rfl⟩
theorem ItAt.obj {k : Bool} {h : Heap} {it a : Addr} {i : Nat} (e : ItAt k h it a i) : ∃ o, h.get? it = some o ∧ ∀ v, o.data ≠ .cell v := by
  cases k
  · obtain ⟨o, h1, _, d⟩ := e
    exact ⟨o, h1, fun v q => by rw [d] at q; cases q⟩
  · obtain ⟨o, h1, _, d⟩ := e
    exact ⟨o, h1, fun v q => by rw [d] at q; cases q⟩
theorem ItAt.keep {k : Bool} {h h' : Heap} {it a : Addr} {i : Nat} (e : ItAt k h it a i) (q : ∀ o, h.get? it = some o → h'.get? it = some o) : ItAt k h' it a i := by
  cases k
  · obtain ⟨o, h1, r⟩ := e
    exact ⟨o, q _ h1, r⟩
  · obtain ⟨o, h1, r⟩ := e
    exact ⟨o, q _ h1, r⟩
section
variable {X : Cx} {pins : List (Addr × Obj)} {σ : L2.St} {H : Hp} {s : Shared}
theorem src_has {k : Bool} {a : Addr} {xs : List V} (I : Inv X pins σ H s) (h : Src X.K k H a xs) : ∃ its : List Value, Vals xs its ∧ Holds k s.heap a its.toArray := by
  cases k
  · obtain ⟨its, rv, p, _⟩ := I.list h
    exact ⟨its, rv, p.isList⟩
  · obtain ⟨its, rv, p, _⟩ := I.tuple h
    exact ⟨its, rv, p⟩
theorem src_inj {k : Bool} {a : Addr} {xs ys : List V} (I : Inv X pins σ H s) (h : Src X.K k H a xs) (h' : Src X.K k H a ys) : xs = ys := by
  cases k
  · exact I.list_inj h h'
  · exact I.tuple_inj h h'
theorem Holds.lt {k : Bool} {h : Heap} {a : Addr} {its : Array Value} (e : Holds k h a its) : a < h.objs.size := by
  cases k
  · obtain ⟨o, h1, _⟩ := e
    exact Heap.lt_size h1
  · obtain ⟨o, h1, _⟩ := e
    exact Heap.lt_size h1
end
def Itq (K : PySem.W.Frag) (k1 k2 : Bool) (a b : Addr) : It :=
  ⟨fun i H => ∃ (xs ys : List V) (x y : V), Src K k1 H a xs ∧ Src K k2 H b ys ∧ xs[i]? = some x ∧ ys[i]? = some y,
    fun i H v H' => ∃ T x y, v = .ref T ∧ H T = none ∧ H' = upd H T (.tup [x, y]) ∧ (∀ xs, Src K k1 H a xs → xs[i]? = some x) ∧ ∀ ys, Src K k2 H b ys → ys[i]? = some y,
    fun i H => ∃ xs ys : List V, Src K k1 H a xs ∧ Src K k2 H b ys ∧ i ≤ xs.length ∧ i ≤ ys.length ∧ (i = xs.length ∨ i = ys.length)⟩
theorem turn_zq {P : Program} {w : World} {K : PySem.W.Frag} {elts : List Expr} {kk : Nat} {tpos : Pos} {a b z TI TO i1 i2 : Addr} {k1 k2 : Bool} (D : ZipSep2 z TI TO i1 i2 [i1, a] [i2, b]) (na : a ≠ i1) (nb : b ≠ i2) :
    Turn P w K (.Tuple elts kk tpos) (Itq K k1 k2 a b) [z, TI, TO, i1, i2] z (fun i h => IsZip h z TI TO .none ∧ IsTupOf2 h TI (.ref i1) (.ref i2) ∧ (∃ x y, IsTupOf2 h TO x y) ∧ ItAt k1 h i1 a i ∧ ItAt k2 h i2 b i) where
  mem := by simp
  obj := fun i h st c hc => by
    obtain ⟨hz, hTI, ⟨x, y, hTO⟩, h1, h2⟩ := st
    have e' : c = z ∨ c = TI ∨ c = TO ∨ c = i1 ∨ c = i2 := by simpa using hc
    rcases e' with q | q | q | q | q
    · rw [q]; exact ⟨_, hz, fun v q => nomatch q⟩
    · rw [q]; exact ⟨_, hTI, fun v q => nomatch q⟩
    · rw [q]; exact ⟨_, hTO, fun v q => nomatch q⟩
    · rw [q]; exact h1.obj
    · rw [q]; exact h2.obj
  keep := fun i h h' st k => by
    obtain ⟨hz, hTI, ⟨x, y, hTO⟩, h1, h2⟩ := st
    exact ⟨k z (by simp) _ hz, k TI (by simp) _ hTI, ⟨x, y, k TO (by simp) _ hTO⟩, h1.keep fun o q => k i1 (by simp) o q, h2.keep fun o q => k i2 (by simp) o q⟩
  item := by
    intro X hP hw hK hc i pins s σ H E I hf st hg
    subst hP hw hK
    obtain ⟨hz, hTI, ⟨x0, y0, hTO⟩, h1, h2⟩ := st
    obtain ⟨xs, ys, x, y, hqx, hqy, hx, hy⟩ := hg
    obtain ⟨its, rv, p⟩ := src_has I hqx
    obtain ⟨its2, rv2, p2⟩ := src_has I hqy
    obtain ⟨u, hu, ru⟩ := rv.get hx
    obtain ⟨u2, hu2, ru2⟩ := rv2.get hy
    have hzl : z < s.heap.objs.size := Heap.lt_size hz
    have lt1 : i < its.toArray.size := by simpa using (List.getElem?_eq_some_iff.mp hu).1
    have lt2 : i < its2.toArray.size := by simpa using (List.getElem?_eq_some_iff.mp hu2).1
    refine wpAny_pyNext_zipD2_item D (draws_k (prog := X.prog) (w := X.w) (A := X.A.in1) k1 (show X.A.in1.handled = none from I.ok.hd hc) i1 a na its.toArray) (draws_k (prog := X.prog) (w := X.w) (A := X.A.in1) k2 (show X.A.in1.handled = none from I.ok.hd hc) i2 b nb its2.toArray) hz hTI hTO ⟨h1, p⟩ ⟨h2, p2⟩ lt1 lt2 fun v1 v2 h' tk hv1 hv2 z' TO' d1 d2 hT hsz hk => ?_
    obtain rfl : u = v1 := by rw [List.getElem?_toArray, hu] at hv1; exact Option.some.inj hv1
    obtain rfl : u2 = v2 := by rw [List.getElem?_toArray, hu2] at hv2; exact Option.some.inj hv2
    refine ⟨_, rfl, wpAny_letOwnedTupleGo_zip (s := { s with heap := h', toks := tk }) z' fun h'' z'' sb => ?_⟩
    have hT2 : h''.get? s.heap.objs.size = some { cls := .type "tuple", data := .seq #[u, u2] } := (sb.2 _ (Nat.ne_of_gt hzl)).trans hT
    have new : ObjOk X.prog X.w (upd H s.heap.objs.size (.tup [x, y])) h'' s.heap.objs.size (.tup [x, y]) :=
      ⟨by show 2 ≤ sizeLine; decide, [u, u2], .cons ru (.cons ru2 .nil), ⟨_, hT2, rfl, _, rfl⟩⟩
    have I1 : Inv X pins σ (upd H s.heap.objs.size (.tup [x, y])) { s with heap := h'', toks := tk } :=
      I.turnedNew (t' := tk) (ch := [z, TI, TO, i1, i2]) (fun c o hb q => (sb.2 c (fun q' => hb (by simp [q']))).trans (hk c o (fun q' => hb (by simp [q'])) (fun q' => hb (by simp [q'])) (fun q' => hb (by simp [q'])) (fun q' => hb (by simp [q'])) q)) hf (Nat.le_refl _) new
    refine ⟨.ref s.heap.objs.size, _, I1, rfl, ⟨_, x, y, rfl, I.hok.fresh (Nat.le_refl _), rfl, fun l hl => by rw [src_inj I hl hqx]; exact hx, fun l hl => by rw [src_inj I hl hqy]; exact hy⟩, ⟨z'', ?_, ⟨u, u2, ?_⟩, ?_, ?_⟩, fun c hcm => ?_⟩
    · exact (sb.2 _ D.TIz).trans (hk _ _ D.TIz D.TITO D.TIi1 D.TIi2 hTI)
    · exact (sb.2 _ D.TOz).trans TO'
    · exact d1.1.keep fun o q => (sb.2 _ (Ne.symm D.zi1)).trans q
    · exact d2.1.keep fun o q => (sb.2 _ (Ne.symm D.zi2)).trans q
    · have hlt : c < s.heap.objs.size := by
        have e' : c = z ∨ c = TI ∨ c = TO ∨ c = i1 ∨ c = i2 := by simpa using hcm
        rcases e' with q | q | q | q | q
        · rw [q]; exact hzl
        · rw [q]; exact Heap.lt_size hTI
        · rw [q]; exact Heap.lt_size hTO
        · rw [q]; obtain ⟨_, e1, _⟩ := h1.obj; exact Heap.lt_size e1
        · rw [q]; obtain ⟨_, e2, _⟩ := h2.obj; exact Heap.lt_size e2
      rw [upd_ne (Nat.ne_of_lt hlt)]
      exact (hf c hcm).1
  done := by
    intro X hP hw hK hc i pins s σ H E I hf st hg
    subst hP hw hK
    obtain ⟨hz, hTI, ⟨x0, y0, hTO⟩, h1, h2⟩ := st
    obtain ⟨xs, ys, hqx, hqy, le1, le2, hend⟩ := hg
    obtain ⟨its, rv, p⟩ := src_has I hqx
    obtain ⟨its2, rv2, p2⟩ := src_has I hqy
    have l1 := rv.length
    have l2 := rv2.length
    refine wpAny_pyNext_zipD2_end D (draws_k (prog := X.prog) (w := X.w) (A := X.A.in1) k1 (show X.A.in1.handled = none from I.ok.hd hc) i1 a na its.toArray) (draws_k (prog := X.prog) (w := X.w) (A := X.A.in1) k2 (show X.A.in1.handled = none from I.ok.hd hc) i2 b nb its2.toArray) hz hTI hTO ⟨h1, p⟩ ⟨h2, p2⟩ (by simp; omega) (by simp; omega) (by simp; omega) fun h' tk hk => ⟨rfl, I.turnedL (t' := tk) (ch := [z, TI, TO, i1, i2]) (fun c o hb q =>
      hk c o (fun q' => hb (by simp [q'])) (fun q' => hb (by simp [q'])) (fun q' => hb (by simp [q'])) (fun q' => hb (by simp [q'])) q) hf⟩
  self := fun A i s Q E st h => wpAny_pyIter_zip st.1 h

def iZq (K : PySem.W.Frag) (ta : TA) : TI := fun σ H R => ta σ H fun vs H1 => ∃ a b xs ys k1 k2, vs = [.ref a, .ref b] ∧ Src K k1 H1 a xs ∧ Src K k2 H1 b ys ∧ R (Itq K k1 k2 a b) H1
theorem pi_zq {X : Cx} {e e2 : Expr} {ta : TA} {p pos tpos : Pos} {elts : List Expr} {kk : Nat} (hg : Gl X "zip") (hm : X.mg "zip" = none) (ha : PA X [e, e2] ta)
    (hs : starEach [e, e2] X.env = (false, eval e X.env) :: starEach [e2] X.env := by rfl) (hpl : (backTo pos (starEach [e2] X.env)).any (·.1) = false := by rfl) :
    PI X (.Tuple elts kk tpos) (.Call (.Name "zip" p) [e, e2] [] pos) (iZq X.K ta) := by
  refine ⟨fun pins s σ H R I h => ?_⟩
  refine Call_ (ld_blt I hg hm PyProof.Rows.boot_zip (PyProof.Rows.callWith_type1 (thn (ha.run pos pins s σ H _ I h) fun us s1 ⟨vs, H1, I1, r1, q1⟩ => ?_) hs hpl))
  obtain ⟨a, b, xs, ys, k1, k2, ex, hqx, hqy, q⟩ := q1
  subst ex
  cases r1 with
  | cons r rr =>
    cases rr with
    | cons r' rr =>
      cases rr
      cases r
      cases r'
      have fresh5 : ∀ c, c ∈ [s1.heap.objs.size + 4, s1.heap.objs.size + 2, s1.heap.objs.size + 3, s1.heap.objs.size, s1.heap.objs.size + 1] → FpOk X pins H1 c := fun c hcm => by
        have e' : c = s1.heap.objs.size + 4 ∨ c = s1.heap.objs.size + 2 ∨ c = s1.heap.objs.size + 3 ∨ c = s1.heap.objs.size ∨ c = s1.heap.objs.size + 1 := by simpa using hcm
        have hle : s1.heap.objs.size ≤ c := by omega
        exact I1.fpOk hle (I1.hok.fresh hle)
      obtain ⟨its, rv, p1⟩ := src_has I1 hqx
      obtain ⟨its2, rv2, p2⟩ := src_has I1 hqy
      have la := p1.lt
      have lb := p2.lt
      refine zip_begins2 (begins_k k1 a its.toArray) (begins_k k2 b its2.toArray) p1 p2 fun h' hz hTI hTO h1 h2 hsz hk => wpAny_pyIter_zip hz ?_
      have I2 : Inv X pins σ H1 { s1 with heap := h' } := I1.kept (t' := s1.toks) hk
      exact ⟨s1.heap.objs.size + 4, [s1.heap.objs.size + 4, s1.heap.objs.size + 2, s1.heap.objs.size + 3, s1.heap.objs.size, s1.heap.objs.size + 1], _, _, H1, rfl, I2,
        turn_zq (zip_sep2 (N := s1.heap.objs.size) (fp1 := [a]) (fp2 := [b]) (fun c hc => (List.mem_singleton.mp hc).symm ▸ la) (fun c hc => (List.mem_singleton.mp hc).symm ▸ lb)) (Nat.ne_of_lt la) (Nat.ne_of_lt (Nat.lt_succ_of_lt lb)), ⟨hz, hTI, ⟨_, _, hTO⟩, itAt_new h1, itAt_new h2⟩, fresh5, q⟩

set_option maxHeartbeats 1000000 in
theorem meets_enum1 {v : Value} {o : Obj} {H : Heap → Prop} (B : Begins v o H) :
    Meets (Builtin.«enumerate.__new__» ⟨[.type "enumerate", v], []⟩) (fun _ R s => H s.heap ∧
      R (.ok (.ret (.ref (s.heap.push o).objs.size))) { s with heap := (s.heap.push o).push { cls := .type "enumerate", data := .fields #[.none, .bool false, .ref s.heap.objs.size, rawInt 0, .none, .none] } }) :=
  .of_wp fun prog w A R s h => by
    obtain ⟨hp, g, d, tk, os⟩ := s; obtain ⟨h1, h⟩ := h
    have hsub := sub_enumerate
    have q1 : ∀ {A' : Around} {E : Value → Shared → Prop} {Q : Value → Shared → Prop}, Q (.ref hp.objs.size) ⟨hp.push o, g, d, tk, os⟩ → wpAny (model prog w) A' (pyIter v) Q E ⟨hp, g, d, tk, os⟩ :=
      fun q => B.iter prog w _ _ ⟨hp, g, d, tk, os⟩ _ h1 q
    wp_walk using q1
    refine wpAny_stack_any fun st => wpAny_pure ?_
    split
    · rename_i c _ _ _ _ _
      cases (c == Value.type "enumerate")
      · wp_walk using q1
        exact ⟨_, rfl, h⟩
      · wp_walk using q1
        exact ⟨_, rfl, h⟩
    · wp_walk using q1
      exact ⟨_, rfl, h⟩
theorem call_enum1 {prog : Program} {w : World} {A : Around} {E : Value → Shared → Prop} {s : Shared} {v : Value} {o : Obj} {H : Heap → Prop} {Q : Value → Shared → Prop} (B : Begins v o H) (h1 : H s.heap)
    (h : ∀ h', IsEnum h' (s.heap.objs.size + 1) s.heap.objs.size 0 .none → h'.get? s.heap.objs.size = some o → h'.objs.size = s.heap.objs.size + 2 →
      (∀ b o, s.heap.get? b = some o → h'.get? b = some o) → Q (.ref (s.heap.objs.size + 1)) { s with heap := h' }) :
    wpAny (model prog w) A (call (.type "enumerate") [v]) Q E s := by
  refine callType_new F.called_enumerate (by decide) (F.typeCall_enumerate_1 _) (F.newCall_enumerate_1 _) (fun obj => F.args_object_init_2 obj _) F.entry_enumerate_new
    (meets_enum1 B) ⟨h1, ?_⟩
  have hz : (s.heap.push o).objs.size = s.heap.objs.size + 1 := Heap.size_push ..
  show _ ∧ _
  rw [hz]
  have he : IsEnum ((s.heap.push o).push { cls := .type "enumerate", data := .fields #[.none, .bool false, .ref s.heap.objs.size, rawInt 0, .none, .none] }) (s.heap.objs.size + 1) s.heap.objs.size 0 .none := by
    have := Heap.get?_push_size (s.heap.push o) (o := { cls := .type "enumerate", data := .fields #[.none, .bool false, .ref s.heap.objs.size, rawInt 0, .none, .none] }) rfl
    rw [hz] at this; exact this
  exact ⟨⟨_, he, rfl⟩, h _ he (Heap.get?_push_of_some _ (Heap.get?_push_size _ B.free)) (by rw [Heap.size_push, hz]) fun b o x => Heap.get?_push_of_some _ (Heap.get?_push_of_some _ x)⟩
/-! enumerate -/
def Ieq (K : PySem.W.Frag) (k : Bool) (a : Addr) : It :=
  ⟨fun i H => ∃ (xs : List V) (x : V), Src K k H a xs ∧ xs[i]? = some x, fun i H v H' => ∃ T x, v = .ref T ∧ H T = none ∧ H' = upd H T (.tup [.int (i : Nat), x]) ∧ ∀ xs, Src K k H a xs → xs[i]? = some x, fun i H => ∃ xs : List V, Src K k H a xs ∧ xs.length = i⟩
theorem turn_eq {P : Program} {w : World} {K : PySem.W.Frag} {elts : List Expr} {kk : Nat} {tpos : Pos} {k : Bool} {a e it : Addr} (na : a ≠ it) (hne : e ≠ it) (hea : e ≠ a) :
    Turn P w K (.Tuple elts kk tpos) (Ieq K k a) [e, it] e (fun i h => (∃ old, IsEnum h e it ((i : Nat) : Int) old) ∧ ItAt k h it a i) where
  mem := by simp
  obj := fun i h st b hb => by
    obtain ⟨⟨old, he⟩, h1⟩ := st
    have e' : b = e ∨ b = it := by simpa using hb
    rcases e' with z | z
    · rw [z]; exact ⟨_, he, fun v q => nomatch q⟩
    · rw [z]; exact h1.obj
  keep := fun i h h' st k => let ⟨⟨old, he⟩, hi⟩ := st; ⟨⟨old, k e (by simp) _ he⟩, hi.keep fun o q => k it (by simp) o q⟩
  item := by
    intro X hP hw hK hc i pins s σ H E I hf st hg
    subst hP hw hK
    obtain ⟨⟨old, he⟩, hit⟩ := st
    obtain ⟨xs, x, hq, hx⟩ := hg
    obtain ⟨its, rv, p⟩ := src_has I hq
    obtain ⟨u, hu, ru⟩ := rv.get hx
    have hel : e < s.heap.objs.size := Heap.lt_size he
    have hil : it < s.heap.objs.size := by obtain ⟨_, q, _⟩ := hit.obj; exact Heap.lt_size q
    have lt1 : i < its.toArray.size := by simpa using (List.getElem?_eq_some_iff.mp hu).1
    refine wpAny_pyNext_enum_itemC (draws_k (prog := X.prog) (w := X.w) (A := X.A.in1) k (show X.A.in1.handled = none from I.ok.hd hc) it a na its.toArray) he ⟨hit, p⟩ lt1 hne (by simp; exact ⟨hne, hea⟩) fun v h' tk hv ho hst hT hsz hk => ?_
    obtain rfl : u = v := by rw [List.getElem?_toArray, hu] at hv; exact Option.some.inj hv
    refine ⟨_, rfl, wpAny_letOwnedTupleGo_enum (s := { s with heap := h', toks := tk + 1 }) ho fun h'' he' sb => ?_⟩
    have hT2 : h''.get? s.heap.objs.size = some { cls := .type "tuple", data := .seq #[.int i tk, u] } := (sb.2 _ (Nat.ne_of_gt hel)).trans hT
    have new : ObjOk X.prog X.w (upd H s.heap.objs.size (.tup [.int (i : Nat), x])) h'' s.heap.objs.size (.tup [.int (i : Nat), x]) :=
      ⟨by show 2 ≤ sizeLine; decide, [.int i tk, u], .cons ⟨_, rfl⟩ (.cons ru .nil), ⟨_, hT2, rfl, _, rfl⟩⟩
    have I1 : Inv X pins σ (upd H s.heap.objs.size (.tup [.int (i : Nat), x])) { s with heap := h'', toks := tk + 1 } :=
      I.turnedNew (ch := [e, it]) (fun b ob hb q => (sb.2 b (fun z => hb (by simp [z]))).trans (hk b ob (fun z => hb (by simp [z])) (fun z => hb (by simp [z])) q)) hf (Nat.le_refl _) new
    refine ⟨.ref s.heap.objs.size, _, I1, rfl, ⟨_, x, rfl, I.hok.fresh (Nat.le_refl _), rfl, fun ys hy => by rw [src_inj I hy hq]; exact hx⟩, ⟨⟨u, ?_⟩, hst.1.keep fun o q => (sb.2 it (Ne.symm hne)).trans q⟩, fun b hb => ?_⟩
    · have e1 : ((i + 1 : Nat) : Int) = (i : Int) + 1 := by omega
      rw [e1]; exact he'
    · have hb' : b < s.heap.objs.size := by
        have e' : b = e ∨ b = it := by simpa using hb
        rcases e' with z | z
        · rw [z]; exact hel
        · rw [z]; exact hil
      rw [upd_ne (Nat.ne_of_lt hb')]
      exact (hf b hb).1
  done := by
    intro X hP hw hK hc i pins s σ H E I hf st hg
    subst hP hw hK
    obtain ⟨⟨old, he⟩, hit⟩ := st
    obtain ⟨xs, hq, hx⟩ := hg
    obtain ⟨its, rv, p⟩ := src_has I hq
    obtain ⟨f0, f1, f2, f3, f4, f5⟩ := hf it (by simp)
    have hl := rv.length
    have hi : i = its.toArray.size := by simp; omega
    subst hi
    exact wpAny_pyNext_enum_endD (draws_k (prog := X.prog) (w := X.w) (A := X.A.in1) k (show X.A.in1.handled = none from I.ok.hd hc) it a na its.toArray) he ⟨hit, p⟩ fun h' eb => ⟨rfl, I.turned (t' := s.toks) (fun b o hb q => eb b o hb q) f0 f1 f3 f4 f5⟩
  self := fun A i s Q E st h => let ⟨⟨_, he⟩, _⟩ := st; wpAny_pyIter_enum he h
def iEq' (K : PySem.W.Frag) (ta : TA) : TI := fun σ H R => ta σ H fun vs H1 => ∃ a xs k, vs = [.ref a] ∧ Src K k H1 a xs ∧ R (Ieq K k a) H1
theorem pi_eq' {X : Cx} {e : Expr} {ta : TA} {p pos tpos : Pos} {elts : List Expr} {kk : Nat} (hg : Gl X "enumerate") (hm : X.mg "enumerate" = none) (ha : PA X [e] ta) (hs : starEach [e] X.env = [(false, eval e X.env)] := by rfl) :
    PI X (.Tuple elts kk tpos) (.Call (.Name "enumerate" p) [e] [] pos) (iEq' X.K ta) := by
  refine ⟨fun pins s σ H R I h => ?_⟩
  refine Call_ (ld_blt I hg hm boot_enumerate (PyProof.Rows.callWith_type1 (thn (ha.run pos pins s σ H _ I h) fun us s1 ⟨vs, H1, I1, r1, q1⟩ => ?_) hs rfl))
  obtain ⟨a, xs, k, ex, hq, q⟩ := q1
  subst ex
  cases r1 with
  | cons r rr =>
    cases rr
    cases r
    obtain ⟨its, rv, p'⟩ := src_has I1 hq
    have la := p'.lt
    refine call_enum1 (begins_k k a its.toArray) p' fun h' he hit hsz hk => wpAny_pyIter_enum he ?_
    have I2 : Inv X pins σ H1 { s1 with heap := h' } := I1.kept (t' := s1.toks) hk
    refine ⟨s1.heap.objs.size + 1, [s1.heap.objs.size + 1, s1.heap.objs.size], _, _, H1, rfl, I2, turn_eq (Nat.ne_of_lt la) (Nat.succ_ne_self _) (Nat.ne_of_gt (Nat.lt_succ_of_lt la)), ⟨⟨.none, he⟩, itAt_new hit⟩, fun b hb => ?_, q⟩
    have e' : b = s1.heap.objs.size + 1 ∨ b = s1.heap.objs.size := by simpa using hb
    have hle : s1.heap.objs.size ≤ b := by
      rcases e' with z | z
      · rw [z]; exact Nat.le_add_right _ _
      · rw [z]; exact Nat.le_refl _
    exact I1.fpOk hle (I1.hok.fresh hle)

/-! ### by data -/
/-- the items of zip, of enumerate: pairs -/
def zipD : List D → List D → List D
  | x :: xs, y :: ys => .tup [x, y] :: zipD xs ys
  | _, _ => []
def enumD : Nat → List D → List D
  | _, [] => []
  | n, x :: xs => .tup [.int (n : Int), x] :: enumD (n + 1) xs
theorem zipD_length : ∀ (xs ys : List D), (zipD xs ys).length = min xs.length ys.length
  | [], ys => by simp [zipD]
  | x :: xs, [] => by simp [zipD]
  | x :: xs, y :: ys => by simp [zipD, zipD_length xs ys] <;> omega
theorem zipD_get : ∀ (xs ys : List D) (i : Nat) {d : D}, (zipD xs ys)[i]? = some d → ∃ x y, xs[i]? = some x ∧ ys[i]? = some y ∧ d = .tup [x, y]
  | [], ys, i, d, h => by simp [zipD] at h
  | x :: xs, [], i, d, h => by simp [zipD] at h
  | x :: xs, y :: ys, 0, d, h => by
    simp [zipD] at h
    exact ⟨x, y, rfl, rfl, h.symm⟩
  | x :: xs, y :: ys, i + 1, d, h => by
    have h' : (zipD xs ys)[i]? = some d := by simpa [zipD] using h
    obtain ⟨a, b, e1, e2, e3⟩ := zipD_get xs ys i h'
    exact ⟨a, b, by simpa using e1, by simpa using e2, e3⟩
theorem enumD_length : ∀ (n : Nat) (xs : List D), (enumD n xs).length = xs.length
  | n, [] => rfl
  | n, x :: xs => by simp [enumD, enumD_length (n + 1) xs]
theorem enumD_get : ∀ (n : Nat) (xs : List D) (i : Nat) {d : D}, (enumD n xs)[i]? = some d → ∃ x, xs[i]? = some x ∧ d = .tup [.int ((n + i : Nat) : Int), x]
  | n, [], i, d, h => by simp [enumD] at h
  | n, x :: xs, 0, d, h => by
    simp [enumD] at h
    exact ⟨x, rfl, h.symm⟩
  | n, x :: xs, i + 1, d, h => by
    have h' : (enumD (n + 1) xs)[i]? = some d := by simpa [enumD] using h
    obtain ⟨a, e1, e2⟩ := enumD_get (n + 1) xs i h'
    refine ⟨a, by simpa using e1, ?_⟩
    rw [e2, show n + 1 + i = n + (i + 1) by omega]
section
variable {K : PySem.W.Frag} {mg : Str → Option Value} {T : List (Addr × Str)} {w w0 : Wd} {μ : Mem} {H : Hp}
/-- what is walked: it stands whatever comes -/
def SrcW (K : PySem.W.Frag) (w0 : Wd) (k : Bool) (a : Addr) (vs : List V) : Prop := match k with
  | true => SqT K w0.φ a vs
  | false => SqL K w0.φ a vs ∨ w0.fr a = some (.lst vs)
theorem SrcW.src {k : Bool} {a : Addr} {vs : List V} (h : SrcW K w0 k a vs) (le : w0.Lw w) (r : RelM K mg T w μ H) : Src K k H a vs := by
  cases k
  · exact scr_H r (h.elim (fun h => .inl (sqL_mono le.φ h)) fun h => .inr (by rw [le.fr]; exact h))
  · exact sqT_mono r.φ (sqT_mono le.φ h)
theorem srcW_of {x : D} {v : V} {xs : List D} (r : RelD K mg w0 x v) (e : seqV x = some xs) : ∃ k a vs, v = .ref a ∧ SrcW K w0 k a vs ∧ RelDs K mg w0 xs vs := by
  cases r with
  | @tup a vs ds h rs => cases e; exact ⟨true, a, vs, rfl, h, rs⟩
  | @lst a vs ds h rs => cases e; exact ⟨false, a, vs, rfl, .inl (.inl (.inl h)), rs⟩
  | @scr a vs ds h rs => cases e; exact ⟨false, a, vs, rfl, h, rs⟩
  | _ => cases e
theorem walks_zq {k1 k2 : Bool} {a b : Addr} {us vs : List V} {xs ys : List D} (h1 : SrcW K w0 k1 a us) (r1 : RelDs K mg w0 xs us) (h2 : SrcW K w0 k2 b vs) (r2 : RelDs K mg w0 ys vs) : Walks K mg T w0 (zipD xs ys) (Itq K k1 k2 a b) := fun w μ H i le rm => by
  have s1 := h1.src le rm
  have s2 := h2.src le rm
  have l1 := r1.length
  have l2 := r2.length
  refine ⟨fun d hd => ?_, fun hi => ?_⟩
  · obtain ⟨x, y, ex, ey, rfl⟩ := zipD_get xs ys i hd
    obtain ⟨u, hu, ru⟩ := r1.get ex
    obtain ⟨v, hv, rv⟩ := r2.get ey
    refine ⟨⟨us, vs, u, v, s1, s2, hu, hv⟩, fun z H' ⟨A, u', v', ez, hA, eH, f1, f2⟩ => ?_⟩
    have e1 := f1 us s1
    have e2 := f2 vs s2
    rw [hu] at e1; cases e1
    rw [hv] at e2; cases e2
    subst ez; subst eH
    refine ⟨w.lay A (.tup [u, v]), rm.lay_le hA _, rm.lay hA (fun ps => nofun), .tup (.inl (.inl upd_same)) ?_⟩
    exact RelDs.mono (rm.lay_le hA _) (.cons (ru.monoW le) (.cons (rv.monoW le) .nil))
  · rw [zipD_length] at hi
    exact ⟨us, vs, s1, s2, by omega, by omega, by omega⟩
theorem walks_eq {k : Bool} {a : Addr} {us : List V} {xs : List D} (h1 : SrcW K w0 k a us) (r1 : RelDs K mg w0 xs us) : Walks K mg T w0 (enumD 0 xs) (Ieq K k a) := fun w μ H i le rm => by
  have s1 := h1.src le rm
  have l1 := r1.length
  refine ⟨fun d hd => ?_, fun hi => ?_⟩
  · obtain ⟨x, ex, rfl⟩ := enumD_get 0 xs i hd
    obtain ⟨u, hu, ru⟩ := r1.get ex
    refine ⟨⟨us, u, s1, hu⟩, fun z H' ⟨A, u', ez, hA, eH, f1⟩ => ?_⟩
    have e1 := f1 us s1
    rw [hu] at e1; cases e1
    subst ez; subst eH
    refine ⟨w.lay A (.tup [.int (i : Nat), u]), rm.lay_le hA _, rm.lay hA (fun ps => nofun), .tup (.inl (.inl upd_same)) ?_⟩
    rw [Nat.zero_add]
    exact RelDs.mono (rm.lay_le hA _) (.cons (.int _) (.cons (ru.monoW le) .nil))
  · rw [enumD_length] at hi
    exact ⟨us, s1, by omega⟩
end
def iZip2 (mr : AM) : IM := fun δ μ => (mr δ μ).bind fun xs μ1 => match xs with
  | [x, y] => match seqV x, seqV y with
    | some a, some b => .ok (zipD a b) μ1
    | _, _ => .stuck
  | _ => .stuck
def iEnu (mr : AM) : IM := fun δ μ => (mr δ μ).bind fun xs μ1 => match xs with
  | [x] => match seqV x with
    | some a => .ok (enumD 0 a) μ1
    | none => .stuck
  | _ => .stuck
section
variable {X : Cx} {S : SI} {W : WX} {a b : Expr} {mr : AM} {p pos tpos : Pos} {elts : List Expr} {kk : Nat}
theorem pi_zip' (hg : Gl X "zip") (hm : X.mg "zip" = none) (ha : PA X [a, b] (TAm X S W mr)) (hs : starEach [a, b] X.env = (false, eval a X.env) :: starEach [b] X.env := by rfl) (hpl : (backTo pos (starEach [b] X.env)).any (·.1) = false := by rfl) :
    PI X (.Tuple elts kk tpos) (.Call (.Name "zip" p) [a, b] [] pos) (TIm X S W <| iZip2 mr) :=
  PIi (pi_zq hg hm ha hs hpl) fun σ H R ⟨w, δ, μ, h⟩ => ⟨w, δ, μ, (At.bind h).mono fun v H1 ⟨w1, μ1, d, le, rd, h1⟩ => by
    split at h1
    · next x y =>
      split at h1
      · next xs ys hx hy =>
        obtain ⟨u, v, rfl, ru, rv⟩ := rd.two2
        obtain ⟨k1, A, us, rfl, s1, r1⟩ := srcW_of ru hx
        obtain ⟨k2, B, vs, rfl, s2, r2⟩ := srcW_of rv hy
        exact ⟨A, B, us, vs, k1, k2, rfl, s1.src (Wd.Le.refl _).lw h1.2.1, s2.src (Wd.Le.refl _).lw h1.2.1, h1.2.2 w1 _ H1 (Wd.Le.refl _) h1.2.1 (walks_zq s1 r1 s2 r2)⟩
      · exact h1.2.2.elim
    · exact h1.2.2.elim⟩
theorem pi_enu' (hg : Gl X "enumerate") (hm : X.mg "enumerate" = none) (ha : PA X [a] (TAm X S W mr)) (hs : starEach [a] X.env = [(false, eval a X.env)] := by rfl) :
    PI X (.Tuple elts kk tpos) (.Call (.Name "enumerate" p) [a] [] pos) (TIm X S W <| iEnu mr) :=
  PIi (pi_eq' hg hm ha hs) fun σ H R ⟨w, δ, μ, h⟩ => ⟨w, δ, μ, (At.bind h).mono fun v H1 ⟨w1, μ1, d, le, rd, h1⟩ => by
    split at h1
    · next x =>
      split at h1
      · next xs hx =>
        obtain ⟨u, rfl, ru⟩ := rd.one1
        obtain ⟨k, A, us, rfl, s1, r1⟩ := srcW_of ru hx
        exact ⟨A, us, k, rfl, s1.src (Wd.Le.refl _).lw h1.2.1, h1.2.2 w1 _ H1 (Wd.Le.refl _) h1.2.1 (walks_eq s1 r1)⟩
      · exact h1.2.2.elim
    · exact h1.2.2.elim⟩
end
end Kw

set_option Elab.async false
set_option linter.all false
set_option maxRecDepth 100000
set_option maxHeartbeats 2000000
namespace Kw
open PySem PySem.Spec PyProof.Rows L2

/-! ### targets within targets -/
section
variable {K : PySem.W.Frag} {mg : Str → Option Value} {S : SI} {vs : List Nat}
theorem nmTgs_consG {gV : TG} {g : GM} {gVs : TGs} {gs : GsM} (h1 : NmTg K mg S vs gV g) (h2 : NmTgs K mg S vs gVs gs) : NmTgs K mg S vs (gCons gV gVs) (gsCons g gs) := fun w δ μ d v σ H Q δ' μ' rs rm rd e h => by
  unfold gsCons at e
  split at e
  · next d r =>
    cases rd with
    | @cons _ _ u us r1 r2 =>
      refine ⟨u, us, rfl, ?_⟩
      cases eg : g d δ μ with
      | nx δ1 μ1 =>
        rw [eg] at e
        refine h1 w δ μ d u σ H _ δ1 μ1 rs rm r1 eg fun σ1 a b c => ?_
        subst c
        exact h2 w δ1 μ1 r us σ1 H Q δ' μ' a rm r2 e fun σ' a' b' c' => h σ' a' (b'.trans b) c'
      | _ => rw [eg] at e; cases e
  · cases e
end

/-! ### chains of two comparisons -/
def eChn (g g' : D → D → Mem → Option D) (ma mb mc : EM) : EM := fun δ μ => (ma δ μ).bind fun x μ1 => (mb δ μ1).bind fun y μ2 => match g x y μ2 with
  | some (.bl k) => if k = true then (mc δ μ2).bind fun z μ3 => oOf (g' y z μ3) μ3 else .ok (.bl false) μ2
  | _ => .stuck
section
variable {X : Cx} {S : SI} {W : WX} {a b c e : Expr} {ma mb mc m : EM} {r r' : R2} {g g' : D → D → Mem → Option D} {pos : Pos}
theorem chn_of (hr : ∀ x y H Q, rD2 X.K X.mg S.T g x y H Q → r x y H Q) (hr' : ∀ x y H Q, rD2 X.K X.mg S.T g' x y H Q → r' x y H Q) (σ : L2.St) (H : Hp) (Q : VK) (h : TEm X S W (eChn g g' ma mb mc) σ H Q) : tChain r r' (TEm X S W ma) (TEm X S W mb) (TEm X S W mc) σ H Q := by
  obtain ⟨w, δ, μ, h⟩ := h
  refine ⟨w, δ, μ, (At.bind h).mono fun x H1 ⟨w1, μ1, d, le, rd, h1⟩ => ⟨w1, δ, μ1, (At.bind h1).mono fun y H2 ⟨w2, μ2, f, le2, re, h2⟩ => ?_⟩⟩
  split at h2
  · next k hk =>
    refine hr _ _ _ _ ⟨w2, μ2, d, f, .bl k, h2.2.1, rd.mono le2, re, hk, fun w3 v H3 le3 r3 rz => ?_⟩
    cases rz
    refine ⟨k, rfl, ?_⟩
    split
    · next hx =>
      rw [if_pos hx] at h2
      have h3 : At X.K X.mg S W (RelD X.K X.mg) σ Q w3 δ μ2 H3 ((mc δ μ2).bind fun z μ3 => oOf (g' f z μ3) μ3) := ⟨h2.1.mono le3, r3, by
        have := h2.2.2
        exact Out.to_mono this (fun _ _ q w' v H' a b c => q w' v H' (le3.trans a) b c) fun _ _ q w' c d H' a b e => q w' c d H' (le3.trans a) b e⟩
      refine ⟨w3, δ, μ2, (At.bind h3).mono fun z H4 ⟨w4, μ4, f', le4, rf, h4⟩ => ?_⟩
      obtain ⟨z', e, q⟩ := h4.opt
      exact hr' _ _ _ _ ⟨w4, μ4, f, f', z', h4.2.1, (re.mono le3).mono le4, rf, e, q⟩
    · next hx =>
      rw [if_neg hx] at h2
      exact h2.2.2 w3 _ H3 le3 r3 (.bl _)
  · exact (show False from h2.2.2).elim
theorem pe_chn (h : ∀ ta tb tc, PE X a ta → PE X b tb → PE X c tc → PE X e (tChain r r' ta tb tc)) (hr : ∀ x y H Q, rD2 X.K X.mg S.T g x y H Q → r x y H Q) (hr' : ∀ x y H Q, rD2 X.K X.mg S.T g' x y H Q → r' x y H Q)
    (ha : PE X a (TEm X S W ma)) (hb : PE X b (TEm X S W mb)) (hc : PE X c (TEm X S W mc)) : PE X e (TEm X S W <| eChn g g' ma mb mc) := PEi (h _ _ _ ha hb hc) (chn_of hr hr')
theorem pt_chn (h : ∀ ta tb tc, PE X a ta → PE X b tb → PE X c tc → PT X e (tTest (tChain r r' ta tb tc))) (hr : ∀ x y H Q, rD2 X.K X.mg S.T g x y H Q → r x y H Q) (hr' : ∀ x y H Q, rD2 X.K X.mg S.T g' x y H Q → r' x y H Q)
    (ha : PE X a (TEm X S W ma)) (hb : PE X b (TEm X S W mb)) (hc : PE X c (TEm X S W mc)) : PT X e (TTm X S W <| tBl (eChn g g' ma mb mc)) := PTi (h _ _ _ ha hb hc) fun σ H Q ⟨w, δ, μ, q⟩ => by
  refine chn_of hr hr' σ H _ ⟨w, δ, μ, q.1, q.2.1, ?_⟩
  have q3 := q.2.2
  unfold tBl at q3
  cases eo : eChn g g' ma mb mc δ μ with
  | stuck => rw [eo] at q3; exact q3.elim
  | exc x μ' => rw [eo] at q3; exact q3
  | ok d μ' =>
    rw [eo] at q3
    intro w' v H' le rm rd
    cases d with
    | bl k =>
      cases rd
      exact ⟨k, rfl, q3 w' k H' le rm rfl⟩
    | _ => exact q3.elim
end

/-! ### times a number -/
section
variable {X : Cx}
theorem tuple_mul1 (l : Addr) (items : Array Value) (n : Nat) (dd : Option Addr) (sl : Array (Option Value)) (u : Tok) :
    Meets (Builtin.«tuple.__mul__» ⟨[.ref l, .int 1 u], []⟩) (fun _ R s => s.heap.get? l = some { cls := .type "tuple", dict := dd, data := .seq items n, slots := sl } ∧ R (.ok (.ret (Value.ref l))) s) :=
  .of_wp fun prog w A R s h => by
    obtain ⟨hp, g, d, tk, os⟩ := s
    obtain ⟨hl, h⟩ := h
    have f1 := AutoSeq1.idx_int
    wp_walk using wpAny_loadPart' hl
    repeat (first
      | (refine wpAny_ite_false (decide_eq_false (by decide)) ?_; wp_walk using wpAny_loadPart' hl)
      | (refine wpAny_ite_true (decide_eq_true (by rw [show ((1 : Int) == 1) = true from rfl, Bool.or_true])) ?_; wp_walk using wpAny_loadPart' hl))
    exact ⟨_, rfl, h⟩
def rRep1 (K : PySem.W.Frag) : R2 := fun x y H Q => ∃ l xs, x = .ref l ∧ y = .int 1 ∧ SqT K H l xs ∧ Q (.ref l) H
theorem op_rep1 : OpR X (binaryOp .Mult) (rRep1 X.K) := by
  intro pins s σ H x y v u Q I rx ry h
  obtain ⟨l, xs, rfl, rfl, hT, q⟩ := h
  cases rx
  obtain ⟨t, rfl⟩ := ry
  obtain ⟨its, r, ⟨⟨cls, dd, data, sl⟩, ho, hc, n, hd⟩, hs⟩ := I.tuple hT
  simp only at hc hd
  subst hc hd
  refine wpAny_binaryOp_repeat_ref (T := "tuple") (U := "int") (by decide) ⟨_, ho, rfl⟩ (fun s' => typeIs_int s' 1 t) noFill_tuple_mul F.fills_int_mul F.slot_int_rmul repeat_tuple F.slot_int_index.lookup
    (call_meets F.slot_int_rmul (typeIs_int s 1 t) F.entry_int_rmul (F.args_int_rmul_2 _ _) (int_rmul_tuple 1 t l its.toArray n dd sl)
      ⟨ho, rfl, ⟨_, ho, rfl⟩, call_meets F.slot_tuple_mul ⟨_, ho, rfl⟩ F.entry_tuple_mul (F.args_tuple_mul_2 _ _) (tuple_mul1 l its.toArray n dd sl t) ⟨ho, ?_⟩⟩)
  exact ⟨.ref l, H, I, rfl, q⟩
def rRepS : R2 := fun x y H Q => ∃ (z : Str) (k : Int), x = .str z ∧ y = .int k ∧ 0 ≤ k ∧ k ≤ 1000 ∧ z.length ≤ 1000 ∧ Q (.str (Txt.mul z k)) H
theorem op_repS : OpR X (binaryOp .Mult) rRepS := by
  intro pins s σ H x y v u Q I rx ry h
  obtain ⟨z, k, rfl, rfl, h0, h1, hz, q⟩ := h
  obtain ⟨t, rfl⟩ := rx
  obtain ⟨t2, rfl⟩ := ry
  refine SB.mul (x := z) (n := k) ⟨?_, fun hk _ => ?_, fun hk _ => ?_⟩ fun t' k' => ⟨.str _, H, I.tok _, ⟨t', rfl⟩, q⟩
  · rw [decide_eq_false (by omega), decide_eq_false (by omega)] <;> rfl
  · have hk' : 0 < k := by omega
    have : (1000 : Int) ≤ (2 ^ 63 - 1) / k := by
      rw [Int.le_ediv_iff_mul_le hk']
      omega
    omega
  · unfold Builtin.Str.tooLong
    rw [sizeLine_eq]
    refine decide_eq_false ?_
    have : z.length * k.toNat ≤ 1000 * 1000 := Nat.mul_le_mul hz (by omega)
    omega
end
def repD (k : Int) (xs : List D) : List D := (List.replicate k.toNat xs).flatten
def gRep : D → D → Mem → Option D
  | .tup xs, .int k, _ => if 0 < xs.length ∧ 1 ≤ k ∧ k ≤ 1000 ∧ xs.length ≤ 1000 then some (.tup (repD k xs)) else none
  | .lst xs, .int k, _ => if -9223372036854775808 ≤ k ∧ k < 9223372036854775808 ∧ xs.length * k.toNat ≤ sizeLine then some (.lst (repD k xs)) else none
  | .str x, .int k, _ => if 0 ≤ k ∧ k ≤ 1000 ∧ x.length ≤ 1000 then some (.str (Txt.mul x k)) else none
  | _, _, _ => none
section
variable {K : PySem.W.Frag} {mg : Str → Option Value} {T : List (Addr × Str)} {x y : V} {H : Hp} {Q : VK} {w : Wd}
theorem RelDs.rep {xs : List D} {vs : List V} (h : RelDs K mg w xs vs) : ∀ k : Nat, RelDs K mg w (List.replicate k xs).flatten (List.replicate k vs).flatten
  | 0 => .nil
  | k + 1 => by
    rw [List.replicate_succ, List.replicate_succ, List.flatten_cons, List.flatten_cons]
    exact h.append (RelDs.rep h k)
theorem rep_r (h : rD2 K mg T gRep x y H Q) : rRep1 K x y H Q ∨ rRepT K x y H Q ∨ rRep x y H Q ∨ rRepS x y H Q := by
  obtain ⟨w, μ, dx, dy, d, r, rx, ry, e, q⟩ := h
  unfold gRep at e
  split at e
  · next xs k =>
    split at e
    · next hc =>
      cases e
      cases ry
      obtain ⟨a, vs, rfl, h1, h2⟩ := tupOf_rel r rx rfl
      by_cases hk : k = 1
      · subst hk
        left
        refine ⟨a, vs, rfl, rfl, h1, ?_⟩
        have : repD 1 xs = xs := by simp [repD]
        rw [this] at q
        exact q.same r rx
      · right; left
        refine ⟨a, k, vs, rfl, rfl, h1, fun z => ?_, by omega, by omega, by rw [← h2.length]; exact hc.2.2.2, q.tup r (h2.rep _)⟩
        have l := h2.length
        rw [z] at l
        have l2 : xs.length = 0 := l
        omega
    · cases e
  · next xs k =>
    split at e
    · next hc =>
      cases e
      cases ry
      cases rx with
      | @lst a vs ds e rs =>
        refine .inr (.inr (.inl ⟨a, k, vs, rfl, rfl, r.φ _ _ e, by omega, by omega, by rw [← rs.length]; exact hc.2.2, q.lst r (rs.rep _)⟩))
    · cases e
  · next z k =>
    split at e
    · next hc =>
      cases e
      cases rx; cases ry
      exact .inr (.inr (.inr ⟨_, _, rfl, rfl, hc.1, hc.2.1, hc.2.2, q.same r (.str _)⟩))
    · cases e
  · cases e
end
/-- a list times a number, as a place -/
def repL : D → D → Option (List D)
  | .lst xs, .int k => if -9223372036854775808 ≤ k ∧ k < 9223372036854775808 ∧ xs.length * k.toNat ≤ sizeLine then some (repD k xs) else none
  | _, _ => none
theorem repL_r {K : PySem.W.Frag} {mg : Str → Option Value} {w : Wd} {d f : D} {x y : V} {ys : List D} (rd : RelD K mg w d x) (re : RelD K mg w f y) (e : repL d f = some ys) :
    ∃ l k vs, x = .ref l ∧ y = .int k ∧ w.φ l = some (.lst vs) ∧ -(2 ^ 63) ≤ k ∧ k < 2 ^ 63 ∧ vs.length * k.toNat ≤ sizeLine ∧ RelDs K mg w ys (List.replicate k.toNat vs).flatten := by
  unfold repL at e
  split at e
  · next xs k =>
    split at e
    · next hc =>
      cases e
      cases re
      cases rd with
      | @lst a vs ds e rs => exact ⟨a, k, vs, rfl, rfl, e, by omega, by omega, by rw [← rs.length]; exact hc.2.2, rs.rep _⟩
    · cases e
  · cases e
def eNewRep (ma mb : EM) : EM := fun δ μ => (ma δ μ).bind fun x μ1 => (mb δ μ1).bind fun y μ2 => match repL x y with
  | some ys => .ok (.loc μ2.length) (μ2 ++ [.lst ys])
  | none => .stuck
section
variable {X : Cx} {S : SI} {W : WX} {a b e : Expr} {es : List Expr} {ma mb : EM} {mr : AM} {pos p : Pos}
theorem pe_rep' (ha : PE X a (TEm X S W ma)) (hb : PE X b (TEm X S W mb)) : PE X (.BinOp a .Mult b pos) (TEm X S W <| e2 gRep ma mb) := pe_2 (fun t u => pe_op (op_rep1.or (op_repT.or (op_rep.or op_repS)))) (fun _ _ _ _ => rep_r) ha hb
theorem pe_newRep (ha : PE X a (TEm X S W ma)) (hb : PE X b (TEm X S W mb)) : PE X (.BinOp a .Mult b pos) (TEm X S W <| eNewRep ma mb) :=
  PEi (pe_op op_rep ha hb) fun σ H Q ⟨w, δ, μ, h⟩ => ⟨w, δ, μ, (At.bind h).mono fun x H1 ⟨w1, μ1, d, le, rd, h1⟩ => ⟨w1, δ, μ1, (At.bind h1).mono fun y H2 ⟨w2, μ2, f, le2, re, h2⟩ => by
    split at h2
    · next ys hy =>
      obtain ⟨l, k, vs, rfl, rfl, h5, h6, h7, h8, h9⟩ := repL_r (rd.mono le2) re hy
      exact ⟨l, k, vs, rfl, rfl, h2.2.1.φ _ _ h5, h6, h7, h8, put_new h2.2.1 (.lst h9) h2.2.2⟩
    · exact h2.2.2.elim⟩⟩

/-! ### any, all: of ints and bools, in a list or a tuple -/
def flatT : D → Option Bool
  | .bl b => some b
  | .int i => some (i != 0)
  | _ => none
def flatTs : List D → Option (List Bool)
  | [] => some []
  | d :: ds => match flatT d, flatTs ds with
    | some b, some bs => some (b :: bs)
    | _, _ => none
def gAnyF : List D → Mem → Option D
  | [x], μ => match seqOf μ x with
    | some xs => match flatTs xs with
      | some bs => some (.bl (bs.any id))
      | none => none
    | none => none
  | _, _ => none
def rAnyF (K : PySem.W.Frag) : List V → Hp → VK → Prop := fun vs H Q => ∃ a k xs ds, vs = [V.ref a] ∧ Src K k H a xs ∧ DpAll K H xs ds ∧ PyData.plainAll ds = true ∧ (∀ x ∈ ds, x.fits63) ∧ Q (.bl (ds.any PyData.truthy)) H
theorem cr_anyF (hc : X.calm = true) : CallR X (.builtin "any") (rAnyF X.K) := by
  intro pins s σ H vs us Q I r h
  obtain ⟨a, k, xs, ds, rfl, hs, dp, hp, hf, q⟩ := h
  obtain ⟨its, rv, hl⟩ := src_has I hs
  rw [Vals.ref1 r]
  obtain ⟨as, hr⟩ := Dp.readsAll I ds xs its dp rv
  have fin : ∀ h' tk, (∀ b o, s.heap.get? b = some o → h'.get? b = some o) → EP X pins σ Q (.bool (ds.any PyData.truthy)) { s with heap := h', toks := tk } := fun h' tk hk => ⟨.bl _, H, I.kept hk, rfl, q⟩
  cases k
  · exact PySem.W.any_list_data (I.ok.hd hc) hl (by simpa using hr) hp hf fin
  · exact PySem.W.any_tuple_data (I.ok.hd hc) hl (by simpa using hr) hp hf fin
theorem flatTs_dp {K : PySem.W.Frag} {mg : Str → Option Value} {w : Wd} {H : Hp} : ∀ {ds : List D} {vs : List V} {bs : List Bool}, RelDs K mg w ds vs → flatTs ds = some bs → ∃ ps, DpAll K H vs ps ∧ PyData.plainAll ps = true ∧ (∀ x ∈ ps, x.fits63) ∧ ps.map PyData.truthy = bs
  | [], _, _, .nil, h => by cases h; exact ⟨[], .nil, rfl, by simp, rfl⟩
  | d :: ds, _, bs, .cons r t, h => by
    unfold flatTs at h
    split at h
    · next b bs' hb hbs =>
      cases h
      obtain ⟨ps, h1, h2, h3, h4⟩ := flatTs_dp t hbs
      unfold flatT at hb
      split at hb
      · cases hb; cases r
        exact ⟨.bool _ :: ps, .cons (.bl _) h1, by simp [PyData.plainAll, PyData.plain, h2], fun x hx => (List.mem_cons.mp hx).elim (fun e => by subst e; trivial) (h3 x), by simp [PyData.truthy, h4]⟩
      · cases hb; cases r
        exact ⟨.int _ :: ps, .cons (.int _) h1, by simp [PyData.plainAll, PyData.plain, h2], fun x hx => (List.mem_cons.mp hx).elim (fun e => by subst e; trivial) (h3 x), by simp [PyData.truthy, h4]⟩
      · cases hb
    · cases h
theorem anyF_r {K : PySem.W.Frag} {mg : Str → Option Value} {T : List (Addr × Str)} {xs : List V} {H : Hp} {Q : VK} (h : rDs K mg T gAnyF xs H Q) : rAnyF K xs H Q := by
  obtain ⟨w, μ, ds, d, r, rs, e, q⟩ := h
  unfold gAnyF at e
  split at e
  · obtain ⟨x, rfl, rx⟩ := rs.one1
    split at e
    · next ys hy =>
      obtain ⟨a, vs, rfl, h2, h3⟩ := seqOf_rel r rx hy
      split at e
      · next bs hb =>
        cases e
        obtain ⟨ps, p1, p2, p3, p4⟩ := flatTs_dp (H := H) h3 hb
        refine h2.elim (fun h2 => ⟨a, false, vs, ps, rfl, h2, p1, p2, p3, ?_⟩) fun h2 => ⟨a, true, vs, ps, rfl, h2, p1, p2, p3, ?_⟩ <;>
        · rw [show ps.any PyData.truthy = bs.any id by rw [← p4, List.any_map]; rfl]
          exact q.same r (.bl _)
      · cases e
    · cases e
  · cases e
theorem pe_anyF' (hc : X.calm = true) (hg : Gl X "any") (hm : X.mg "any" = none) (ha : PA X (e :: es) (TAm X S W mr)) (he : starEach (e :: es) X.env = (false, eval e X.env) :: starEach es X.env := by rfl) (hpl : (backTo pos (starEach es X.env)).any (·.1) = false := by rfl) :
    PE X (.Call (.Name "any" p) (e :: es) [] pos) (TEm X S W <| eAs gAnyF mr) := pe_As (fun t h => pe_callB (cr_anyF hc) hg hm (by decide +kernel) h (by decide) (by decide) he hpl) (fun _ _ _ => anyF_r) ha
end
end Kw

set_option Elab.async false
set_option linter.all false
set_option maxRecDepth 100000
namespace Kw
open PySem PySem.Spec PyProof.Rows L2

/-! ### comprehensions over lists that may change, and comprehensions whose list is a place -/
/-- what comes next: none: nothing is known; some none: the end -/
abbrev Nx := Nat → Mem → Option (Option D)
def WalksN (K : PySem.W.Frag) (mg : Str → Option Value) (T : List (Addr × Str)) (w0 : Wd) (nx : Nx) (J : It) : Prop := ∀ w μ H i, w0.Lw w → RelM K mg T w μ H →
  (nx i μ = some none → J.stop i H) ∧ ∀ d, nx i μ = some (some d) → J.go i H ∧ ∀ x H', J.yld i H x H' → ∃ w1, w.Le w1 ∧ RelM K mg T w1 μ H' ∧ RelD K mg w1 d x
abbrev NM := Sv → Mem → Out (Nx × Nat)
abbrev TNm (X : Cx) (S : SI) (W : WX) (m : NM) : TI := tM X.K X.mg S W (fun w (p : Nx × Nat) J => WalksN X.K X.mg S.T w p.1 J) m
/-- items that stand -/
def nxL (items : List D) : Nx := fun i _ => if i ≤ items.length then some items[i]? else none
def nOf (mi : IM) : NM := fun δ μ => (mi δ μ).bind fun items μ1 => .ok (nxL items, items.length + 1) μ1
def nxLoc (l : Nat) : Nx := fun i μ => match μ[l]? with
  | some (.lst xs) => if i ≤ xs.length then some xs[i]? else none
  | _ => none
def nxEnu (l : Nat) : Nx := fun i μ => match μ[l]? with
  | some (.lst xs) => if i ≤ xs.length then some (xs[i]?.map fun x => .tup [.int (i : Nat), x]) else none
  | _ => none
def nLoc (ma : EM) : NM := fun δ μ => (ma δ μ).bind fun x μ1 => match x with
  | .loc l => match μ1[l]? with
    | some (.lst xs) => .ok (nxLoc l, xs.length + 1) μ1
    | _ => .stuck
  | _ => .stuck
def nEnu (mr : AM) : NM := fun δ μ => (mr δ μ).bind fun xs μ1 => match xs with
  | [.loc l] => match μ1[l]? with
    | some (.lst xs) => .ok (nxEnu l, xs.length + 1) μ1
    | _ => .stuck
  | _ => .stuck
def lcN (nx : Nx) (g : GM) (mt : TM) (me : EM) (δ : Sv) : Nat → Nat → Mem → Out (List D)
  | 0, _, _ => .stuck
  | n + 1, i, μ => match nx i μ with
    | none => .stuck
    | some none => .ok [] μ
    | some (some d) => match g d δ μ with
      | .nx δ1 μ1 => match mt δ1 μ1 with
        | .ok true μ2 => match me δ1 μ2 with
          | .ok y μ3 => match lcN nx g mt me δ n (i + 1) μ3 with
            | .ok ys μ4 => .ok (y :: ys) μ4
            | _ => .stuck
          | _ => .stuck
        | .ok false μ2 => lcN nx g mt me δ n (i + 1) μ2
        | _ => .stuck
      | _ => .stuck
def eLcN (pl : Bool) (mi : NM) (g : GM) (mt : TM) (me : EM) (vs : List Nat) : EM := fun δ μ => (mi δ μ).bind fun p μ1 => match lcN p.1 g mt me (wipeD δ vs) p.2 0 μ1 with
  | .ok ys μ2 => if ys.length ≤ sizeLine then (if pl = true then .ok (.loc μ2.length) (μ2 ++ [.lst ys]) else .ok (.lst ys) μ2) else .stuck
  | _ => .stuck
theorem lcN_fix {items : List D} {g : GM} {mt : TM} {me : EM} {δ : Sv} : ∀ (n i : Nat) (μ : Mem), i + n = items.length + 1 → lcN (nxL items) g mt me δ n i μ = if i ≤ items.length then lcL g mt me δ (items.drop i) μ else .stuck
  | 0, i, μ, h => by
    rw [if_neg (by omega)]
    rfl
  | n + 1, i, μ, h => by
    rw [if_pos (by omega)]
    unfold lcN
    by_cases hi : i < items.length
    · have e1 : nxL items i μ = some (some items[i]) := by
        unfold nxL
        rw [if_pos (by omega), List.getElem?_eq_getElem hi]
      rw [e1, List.drop_eq_getElem_cons hi]
      have ih := fun μ' => lcN_fix (items := items) (g := g) (mt := mt) (me := me) (δ := δ) n (i + 1) μ' (by omega)
      have ih' : ∀ μ', lcN (nxL items) g mt me δ n (i + 1) μ' = lcL g mt me δ (items.drop (i + 1)) μ' := fun μ' => by rw [ih μ', if_pos (by omega)]
      simp only [lcL, ih'] <;> rfl
    · have e2 : i = items.length := by omega
      subst e2
      have e1 : nxL items items.length μ = some none := by
        unfold nxL
        rw [if_pos (Nat.le_refl _), List.getElem?_eq_none (Nat.le_refl _)]
      rw [e1, List.drop_length]
      rfl
/-- over what stands it is lcL -/
theorem eLcN_fix {pl : Bool} {mi : IM} {g : GM} {mt : TM} {me : EM} {vs : List Nat} {δ : Sv} {μ : Mem} : eLcN pl (nOf mi) g mt me vs δ μ = ((mi δ μ).bind fun items μ1 => (match lcL g mt me (wipeD δ vs) items μ1 with
  | .ok ys μ2 => if ys.length ≤ sizeLine then (if pl = true then .ok (.loc μ2.length) (μ2 ++ [.lst ys]) else .ok (.lst ys) μ2) else .stuck
  | _ => .stuck : Out D)) := by
  unfold eLcN nOf
  cases mi δ μ with
  | stuck => rfl
  | exc x μ' => rfl
  | ok items μ1 =>
    show ((match lcN (nxL items) g mt me (wipeD δ vs) (items.length + 1) 0 μ1 with
      | .ok ys μ2 => if ys.length ≤ sizeLine then (if pl = true then .ok (.loc μ2.length) (μ2 ++ [.lst ys]) else .ok (.lst ys) μ2) else .stuck
      | _ => .stuck : Out D)) = _
    rw [lcN_fix (items.length + 1) 0 μ1 (by omega), if_pos (Nat.zero_le _), List.drop_zero]
    rfl
section
variable {K : PySem.W.Frag} {mg : Str → Option Value} {T : List (Addr × Str)} {w w0 : Wd} {μ : Mem} {H : Hp}
theorem WalksN.of {items : List D} {J : It} (h : Walks K mg T w0 items J) : WalksN K mg T w0 (nxL items) J := fun w μ H i le rm => by
  obtain ⟨k1, k2⟩ := h w μ H i le rm
  refine ⟨fun e => k2 ?_, fun d e => k1 d ?_⟩
  · unfold nxL at e
    split at e
    · next hi =>
      have := List.getElem?_eq_none_iff.mp (Option.some.inj e)
      omega
    · cases e
  · unfold nxL at e
    split at e
    · exact Option.some.inj e
    · cases e
theorem walksN_loc {l : Nat} (hl : l < w0.n) : WalksN K mg T w0 (nxLoc l) (Itl K (w0.ρ l)) := fun w μ H i le rm => by
  have hρ := le.ρ l hl
  unfold nxLoc
  split
  · next xs hx =>
    obtain ⟨vs, h1, h2⟩ := rm.lst hx
    rw [hρ] at h1
    have len := h2.length
    refine ⟨fun e => ?_, fun d e => ?_⟩
    · split at e
      · have := List.getElem?_eq_none_iff.mp (Option.some.inj e)
        exact ⟨vs, .inl (.inl h1), by omega⟩
      · cases e
    · split at e
      · have hd := Option.some.inj e
        obtain ⟨v, hv, rv⟩ := h2.get hd
        refine ⟨⟨vs, v, .inl (.inl h1), hv⟩, fun x H' ⟨e, ex⟩ => ⟨w, Wd.Le.refl _, e ▸ rm, ?_⟩⟩
        have := ex vs (.inl (.inl h1))
        rw [hv] at this
        cases this
        exact rv
      · cases e
  · exact ⟨(fun e => nomatch e), (fun d e => nomatch e)⟩
theorem walksN_enu {l : Nat} (hl : l < w0.n) : WalksN K mg T w0 (nxEnu l) (Ieq K false (w0.ρ l)) := fun w μ H i le rm => by
  have hρ := le.ρ l hl
  unfold nxEnu
  split
  · next xs hx =>
    obtain ⟨vs, h1, h2⟩ := rm.lst hx
    rw [hρ] at h1
    have len := h2.length
    refine ⟨fun e => ?_, fun d e => ?_⟩
    · split at e
      · next hi =>
        have := List.getElem?_eq_none_iff.mp (Option.map_eq_none_iff.mp (Option.some.inj e))
        exact ⟨vs, .inl (.inl h1), by omega⟩
      · cases e
    · split at e
      · obtain ⟨y, hy, ey⟩ := Option.map_eq_some_iff.mp (Option.some.inj e)
        subst ey
        obtain ⟨v, hv, rv⟩ := h2.get hy
        refine ⟨⟨vs, v, .inl (.inl h1), hv⟩, fun z H' ⟨A, u', ez, hA, eH, f1⟩ => ?_⟩
        have e1 := f1 vs (.inl (.inl h1))
        rw [hv] at e1; cases e1
        subst ez; subst eH
        exact ⟨w.lay A (.tup [.int (i : Nat), v]), rm.lay_le hA _, rm.lay hA (fun ps => nofun), .tup (.inl (.inl upd_same)) (RelDs.mono (rm.lay_le hA _) (.cons (.int _) (.cons rv .nil)))⟩
      · cases e
  · exact ⟨(fun e => nomatch e), (fun d e => nomatch e)⟩
/-- what was being made becomes a place -/
def Wd.born (w : Wd) (p : Addr) (g : Hp) : Wd := { w with n := w.n + 1, ρ := fun l => if l = w.n then p else w.ρ l, gr := g }
theorem RelM.born (r : RelM K mg T w μ H) {p : Addr} {us : List V} {ds : List D} {g : Hp} (hp : w.gr p = some (.lst us)) (rd : RelDs K mg w ds us) (hg : ∀ a, a ≠ p → g a = w.gr a) (gp : g p = none) : w.Lw (w.born p g) ∧ RelM K mg T (w.born p g) (μ ++ [.lst ds]) H := by
  have hH := r.gr p _ hp
  obtain ⟨f1, f2⟩ := r.dg p _ hp
  have lw : w.Lw (w.born p g) := ⟨Nat.le_succ _, fun l h => if_neg (Nat.ne_of_lt h), fun _ _ h => h, rfl⟩
  have gg : ∀ {a u}, g a = some u → a ≠ p ∧ w.gr a = some u := fun {a u} h => by
    have : a ≠ p := fun e => by rw [e, gp] at h; cases h
    exact ⟨this, by rw [← hg a this]; exact h⟩
  have old : ∀ l, l < w.n → (w.born p g).ρ l = w.ρ l := fun l h => if_neg (Nat.ne_of_lt h)
  have apart : ∀ l, l < w.n → w.ρ l ≠ p := fun l hl z => by
    have hl' : l < μ.length := r.n ▸ hl
    have q := r.ob l μ[l] (List.getElem?_eq_getElem hl')
    by_cases ng : μ[l] = .gone
    · obtain ⟨u, hu⟩ := r.gn l (by rw [List.getElem?_eq_getElem hl', ng])
      rw [z, f1] at hu; cases hu
    · have := (q.2 ng).2.2
      rw [z, hp] at this; cases this
  refine ⟨lw, ?_, r.φ, r.fr, fun a u h => r.gr a u (gg h).2, r.dj, fun a u h => r.dg a u (gg h).2, fun l c hc => ?_, fun l hl => ?_, fun l l' h h' e => ?_, r.tabs, r.nt⟩
  · show w.n + 1 = _
    simp [r.n]
  · by_cases e : l = w.n
    · subst e
      rw [r.n, List.getElem?_append_right (Nat.le_refl _)] at hc
      simp at hc
      subst hc
      rw [show (w.born p g).ρ w.n = p from if_pos rfl, hH]
      exact ⟨.lst (RelDs.monoW lw rd), fun _ => ⟨f1, f2, gp⟩⟩
    · have hl : l < μ.length := by
        have := (List.getElem?_eq_some_iff.mp hc).1
        simp at this
        have := r.n
        omega
      rw [List.getElem?_append_left hl] at hc
      obtain ⟨h1, h2⟩ := r.ob l c hc
      have hn : l < w.n := by rw [r.n]; exact hl
      rw [old l hn]
      refine ⟨h1.monoW lw, fun ng => ⟨(h2 ng).1, (h2 ng).2.1, ?_⟩⟩
      show g (w.ρ l) = none
      rw [hg _ (apart l hn)]
      exact (h2 ng).2.2
  · by_cases e : l < μ.length
    · rw [List.getElem?_append_left e] at hl
      obtain ⟨u, hu⟩ := r.gn l hl
      refine ⟨u, ?_⟩
      show w.φ ((w.born p g).ρ l) = some u
      rw [old l (by have := r.n; omega)]
      exact hu
    · rw [List.getElem?_append_right (by omega)] at hl
      cases k : l - μ.length with
      | zero => rw [k] at hl; cases hl
      | succ n => rw [k] at hl; cases hl
  · have h1 : l < w.n + 1 := h
    have h2 : l' < w.n + 1 := h'
    by_cases e1 : l = w.n
    · by_cases e2 : l' = w.n
      · rw [e1, e2]
      · rw [show (w.born p g).ρ l = p from if_pos e1, old l' (by omega)] at e
        exact absurd e.symm (apart l' (by omega))
    · by_cases e2 : l' = w.n
      · rw [old l (by omega), show (w.born p g).ρ l' = p from if_pos e2] at e
        exact absurd e (apart l (by omega))
      · rw [old l (by omega), old l' (by omega)] at e
        exact r.inj l l' (by omega) (by omega) e
end
section
variable {X : Cx} {S : SI} {W : WX} {elt tg iter a : Expr} {ifs : List Expr} {scope : Scope} {own : List (Str × Nat)} {pos p : Pos} {mi : NM} {mf : IM} {g : GM} {gV : TG} {mt : TM} {me ma : EM} {mr : AM} {pl : Bool} {elts : List Expr} {kk : Nat} {tpos : Pos}
theorem tLcN_of {σ : L2.St} {H : Hp} {Q : VK} {vs : List Nat} (hn : NmTg X.K X.mg S vs gV g) (h : tM X.K X.mg S W (RelD X.K X.mg) (eLcN pl mi g mt me vs) σ H Q) : tLc (TNm X S W mi) gV (TTm X S W0 mt) (TEm X S W0 me) vs σ H Q := by
  obtain ⟨w, δ, μ, h⟩ := h
  refine ⟨w, δ, μ, (At.bind h).mono fun J H1 ⟨w1, μ1, ⟨nx, fuel⟩, le1, wk, h1⟩ => ?_⟩
  have rs1 := h1.1
  have rm1 := h1.2.1
  have h3 := h1.2.2
  simp only at wk h3
  cases e : lcN nx g mt me (wipeD δ vs) fuel 0 μ1 with
  | stuck => rw [e] at h3; exact h3.elim
  | exc x μ' => rw [e] at h3; exact h3.elim
  | ok ys μ2 =>
    rw [e] at h3
    simp only at h3
    split at h3
    case isFalse => exact h3.elim
    case isTrue hsz =>
    intro D hD
    obtain ⟨f1, f2, fg, f3⟩ := rm1.free hD
    refine ⟨fun i m H => ∃ (w : Wd) (μ : Mem) (acc : List Kw.D × List V) (zs : List Kw.D), w1.Lw w ∧ w.gr = upd w1.gr D (.lst acc.2) ∧ RelDs X.K X.mg w acc.1 acc.2 ∧ RelM X.K X.mg S.T w μ H ∧ lcN nx g mt me (wipeD δ vs) m i μ = .ok zs μ2 ∧ ys = acc.1 ++ zs, ⟨fuel, w1.grow D (.lst []), μ1, ([], []), ys, w1.grow_lw D _, rfl, .nil, rm1.grow hD _, e, rfl⟩, ?_⟩
    rintro i m H ⟨w2, μ3, ⟨ds, us⟩, zs, lw, hgr, racc, rm, hz, rfl⟩
    simp only at hgr racc hz
    obtain ⟨k2, k1⟩ := wk w2 μ3 H i lw rm
    have hgD : w2.gr D = some (.lst us) := by rw [hgr, upd_same]
    cases m with
    | zero => cases hz
    | succ m =>
    unfold lcN at hz
    cases en : nx i μ3 with
    | none => rw [en] at hz; cases hz
    | some o =>
    rw [en] at hz
    cases o with
    | some d =>
      right
      simp only at hz
      obtain ⟨go, yl⟩ := k1 _ en
      refine ⟨go, fun H' => ∃ (w : Wd) (μ : Mem) (acc : List Kw.D × List V) (zs' : List Kw.D), w1.Lw w ∧ w.gr = upd w1.gr D (.lst acc.2) ∧ RelDs X.K X.mg w acc.1 acc.2 ∧ RelM X.K X.mg S.T w μ H' ∧ lcN nx g mt me (wipeD δ vs) m (i + 1) μ = .ok zs' μ2 ∧ ds ++ zs = acc.1 ++ zs', fun H' hN => ⟨m, Nat.lt_succ_self m, hN⟩, fun x H' hy => ?_⟩
      obtain ⟨w3, le3, rm3, rd⟩ := yl x H' hy
      have lw3 := lw.trans le3.lw
      have rs3 : RelSv X.K X.mg S w3 (wipeD δ vs) (L2.wipe σ vs) := (rs1.wipe vs).monoW lw3
      cases eg : g d (wipeD δ vs) μ3 with
      | nx δ4 μ4 =>
        rw [eg] at hz
        simp only at hz
        refine hn w3 _ μ3 d x _ H' _ δ4 μ4 rs3 rm3 rd eg fun σ' rs4 hw hμ => ?_
        subst hμ
        refine ⟨hw.trans (wipe_wipe σ vs), w3, δ4, μ4, rs4, rm3, ?_⟩
        cases et : mt δ4 μ4 with
        | ok b μ5 =>
          rw [et] at hz
          intro w5 b' H5 le5 rm5 hb
          cases hb
          have hgr5 : w5.gr = upd w1.gr D (.lst us) := by rw [le5.gr, le3.gr]; exact hgr
          cases b with
          | true =>
            simp only at hz
            rw [if_pos rfl]
            refine ⟨w5, δ4, μ5, rs4.mono le5, rm5, ?_⟩
            cases ee : me δ4 μ5 with
            | ok y μ6 =>
              rw [ee] at hz
              simp only at hz
              intro w6 v H6 le6 rm6 ry
              cases el : lcN nx g mt me (wipeD δ vs) m (i + 1) μ6 with
              | ok zs' μ7 =>
                rw [el] at hz
                cases hz
                have hgr6 : w6.gr = upd w1.gr D (.lst us) := by rw [le6.gr]; exact hgr5
                have hg6 : w6.gr D = some (.lst us) := by rw [hgr6, upd_same]
                have racc6 : RelDs X.K X.mg w6 ds us := ((racc.mono le3).mono le5).mono le6
                refine ⟨us, rm6.gr D _ hg6, ?_, w6.grow D (.lst (us ++ [v])), μ6, (ds ++ [y], us ++ [v]), zs', ?_, ?_, ?_, rm6.regrow hg6 rfl _, el, by simp⟩
                · have l1 := racc.length
                  have l2 := hsz
                  simp only [List.length_append, List.length_cons] at l2
                  omega
                · exact ((lw3.trans le5.lw).trans le6.lw).trans (w6.grow_lw D _)
                · show upd w6.gr D _ = _
                  rw [hgr6]
                  funext a
                  by_cases ha : a = D
                  · subst ha; rw [upd_same, upd_same]
                  · rw [upd_ne ha, upd_ne ha, upd_ne ha]
                · exact RelDs.monoW (w6.grow_lw D _) (racc6.append (.one ry))
              | exc x μ' => rw [el] at hz; cases hz
              | stuck => rw [el] at hz; cases hz
            | exc x μ' => rw [ee] at hz; cases hz
            | stuck => rw [ee] at hz; cases hz
          | false =>
            simp only at hz
            rw [if_neg (by decide)]
            exact ⟨w5, μ5, (ds, us), zs, lw3.trans le5.lw, hgr5, (racc.mono le3).mono le5, rm5, hz, rfl⟩
        | exc x μ' => rw [et] at hz; cases hz
        | stuck => rw [et] at hz; cases hz
      | _ => rw [eg] at hz; cases hz
    | none =>
      left
      refine ⟨k2 en, ?_⟩
      cases hz
      rw [List.append_nil] at h3
      have hg' : ∀ a, a ≠ D → w1.gr a = w2.gr a := fun a ha => by rw [hgr, upd_ne ha]
      cases pl with
      | false =>
        rw [if_neg (by decide)] at h3
        have rdone := rm.done (g := w1.gr) hgD hg' fg (fun _ => nofun)
        refine h3 (w2.done D (.lst us) w1.gr) _ H ⟨lw.n, lw.ρ, fun a o ha => ?_, lw.fr, rfl⟩ rdone (.lst upd_same (RelDs.monoW ?_ racc))
        · have : a ≠ D := fun z => by rw [z, f1] at ha; cases ha
          show upd w2.φ D _ a = _
          rw [upd_ne this]
          exact lw.φ a o ha
        · refine ⟨Nat.le_refl _, fun _ _ => rfl, fun a o ha => ?_, rfl⟩
          have : a ≠ D := fun z => by
            have := (rm.dg D _ hgD).1
            rw [← z, ha] at this; cases this
          show upd w2.φ D _ a = _
          rw [upd_ne this]
          exact ha
      | true =>
        rw [if_pos rfl] at h3
        obtain ⟨lb, rb⟩ := rm.born hgD racc hg' fg
        have rl := RelD.loc (K := X.K) (mg := X.mg) (w := w2.born D w1.gr) (l := μ2.length) (by rw [← rm.n]; exact Nat.lt_succ_self _)
        rw [show (w2.born D w1.gr).ρ μ2.length = D by rw [← rm.n]; exact if_pos rfl] at rl
        exact h3 (w2.born D w1.gr) _ H ⟨Nat.le_trans lw.n (Nat.le_succ _), fun l hl => ((lw.trans lb).ρ l hl), lw.φ, lw.fr, rfl⟩ rb rl
theorem pi_nOf (h : PI X tg iter (TIm X S W mf)) : PI X tg iter (TNm X S W (nOf mf)) := PIi h fun σ H R ⟨w, δ, μ, q⟩ => ⟨w, δ, μ, (At.bind (f := fun items μ1 => .ok (nxL items, items.length + 1) μ1) q).mono fun J H1 ⟨w1, μ1, items, le, wk, h1⟩ => h1.2.2 w1 J H1 (Wd.Le.refl _) h1.2.1 (WalksN.of wk)⟩
theorem pi_nLoc (ha : PE X a (TEm X S W ma)) : PI X tg a (TNm X S W <| nLoc ma) := PIi (pi_list ha) fun σ H R ⟨w, δ, μ, h⟩ => ⟨w, δ, μ, (At.bind h).mono fun v H1 ⟨w1, μ1, d, le, rd, h1⟩ => by
  split at h1
  · next l =>
    split at h1
    · next xs hx =>
      obtain ⟨vs, h2, h4⟩ := h1.2.1.lst hx
      cases rd with
      | loc hl => exact ⟨_, rfl, ⟨vs, .inl (.inl h2)⟩, h1.2.2 w1 _ H1 (Wd.Le.refl _) h1.2.1 (walksN_loc hl)⟩
    · exact h1.2.2.elim
  · exact h1.2.2.elim⟩
theorem pi_nEnu (hg : Gl X "enumerate") (hm : X.mg "enumerate" = none) (ha : PA X [a] (TAm X S W mr)) (hs : starEach [a] X.env = [(false, eval a X.env)] := by rfl) :
    PI X (.Tuple elts kk tpos) (.Call (.Name "enumerate" p) [a] [] pos) (TNm X S W <| nEnu mr) := PIi (pi_eq' hg hm ha hs) fun σ H R ⟨w, δ, μ, h⟩ => ⟨w, δ, μ, (At.bind h).mono fun v H1 ⟨w1, μ1, d, le, rd, h1⟩ => by
  split at h1
  · next l =>
    split at h1
    · next xs hx =>
      obtain ⟨vs, h2, h4⟩ := h1.2.1.lst hx
      obtain ⟨u, rfl, ru⟩ := rd.one1
      cases ru with
      | loc hl => exact ⟨_, vs, false, rfl, .inl (.inl h2), h1.2.2 w1 _ H1 (Wd.Le.refl _) h1.2.1 (walksN_enu hl)⟩
    · exact h1.2.2.elim
  · exact h1.2.2.elim⟩
theorem pe_lcN (hc : X.calm = true) (hN : X.N.Nodup) (hi : PI X tg iter (TNm X S W mi)) (ok : BlkOk X.N X.env.scope scope own) (hn : NmTg X.K X.mg S (own.map (·.2)) gV g)
    (hg : ∀ (s : Shared) (H : Hp) (C : Addr) (cl : List (Str × Addr)) (fp : List Addr), PG (X.blk s H scope (compEnvC scope cl C X.env) fp) tg gV) (ht : ∀ (s : Shared) (H : Hp) (C : Addr) (cl : List (Str × Addr)) (fp : List Addr), PTs (X.blk s H scope (compEnvC scope cl C X.env) fp) ifs (TTm X S W0 mt))
    (he : ∀ (s : Shared) (H : Hp) (C : Addr) (cl : List (Str × Addr)) (fp : List Addr), PE (X.blk s H scope (compEnvC scope cl C X.env) fp) elt (TEm X S W0 me)) (hs : ∀ x, foldedSetIterable iter X.env x = pure x := by intro _; rfl) :
    PE X (.ListComp elt [⟨tg, iter, ifs, 0⟩] scope pos) (TEm X S W <| eLcN pl mi g mt me (own.map (·.2))) :=
  PEi (pe_lc hc hN hi ok hg ht he hs) fun σ H Q h => tLcN_of hn h
theorem ps_setLcN {i : Nat} {y : Str} {py spos : Pos} (hc : X.calm = true) (hN : X.N.Nodup) (hy : X.N[i]? = some y) (hyl : X.env.scope.names.lookup y = some .local)
    (hsw : swapsWith (.ListComp elt [⟨tg, iter, ifs, 0⟩] scope pos) (some (.Name y py)) spos.line X.env = pure true) (hi : PI X tg iter (TNm X S W mi)) (ok : BlkOk X.N X.env.scope scope own) (hn : NmTg X.K X.mg S (own.map (·.2)) gV g)
    (hg : ∀ (s : Shared) (H : Hp) (C : Addr) (cl : List (Str × Addr)) (fp : List Addr), PG (X.blk s H scope (compEnvC scope cl C X.env) fp) tg gV) (ht : ∀ (s : Shared) (H : Hp) (C : Addr) (cl : List (Str × Addr)) (fp : List Addr), PTs (X.blk s H scope (compEnvC scope cl C X.env) fp) ifs (TTm X S W0 mt))
    (he : ∀ (s : Shared) (H : Hp) (C : Addr) (cl : List (Str × Addr)) (fp : List Addr), PE (X.blk s H scope (compEnvC scope cl C X.env) fp) elt (TEm X S W0 me)) (hs : ∀ x, foldedSetIterable iter X.env x = pure x := by intro _; rfl) :
    PS X (.Assign [.Name y py] (.ListComp elt [⟨tg, iter, ifs, 0⟩] scope pos) spos) (TSm X S W <| sAsg (eLcN pl mi g mt me (own.map (·.2))) (gNm i)) :=
  PSi (ps_setLc hc hN hy hyl hsw hi ok hg ht he hs) fun D σ H ⟨w, δ, μ, rs, rm, h⟩ => tLcN_of hn ⟨w, δ, μ, (At.bindS rs rm h).mono fun v H1 ⟨w1, μ1, d, le, rd, rs1, rm1, q⟩ => q w1 _ H1 (Wd.Le.refl _) rm1 (rs1.set i rd)⟩
end
section
variable {X : Cx} {S : SI} {W : WX} {a b c : Expr} {ma mb mc : EM} {r r' : R2} {g g' : D → D → Mem → Option D} {pos : Pos} {op op' : CmpOp}
theorem pe_chn' (ho : OpR X (compareOp op) r) (ho' : OpR X (compareOp op') r') (hr : ∀ x y H Q, rD2 X.K X.mg S.T g x y H Q → r x y H Q) (hr' : ∀ x y H Q, rD2 X.K X.mg S.T g' x y H Q → r' x y H Q)
    (ha : PE X a (TEm X S W ma)) (hb : PE X b (TEm X S W mb)) (hc : PE X c (TEm X S W mc)) (hm : lastMarks [op, op'] [b, c] = false := by with_unfolding_all rfl) : PE X (.Compare a [op, op'] [b, c] pos) (TEm X S W <| eChn g g' ma mb mc) :=
  pe_chn (fun _ _ _ ha hb hc => pe_chain ho ho' ha hb hc hm) hr hr' ha hb hc
theorem pt_chn' (ho : OpR X (compareOp op) r) (ho' : OpR X (compareOp op') r') (hr : ∀ x y H Q, rD2 X.K X.mg S.T g x y H Q → r x y H Q) (hr' : ∀ x y H Q, rD2 X.K X.mg S.T g' x y H Q → r' x y H Q)
    (ha : PE X a (TEm X S W ma)) (hb : PE X b (TEm X S W mb)) (hc : PE X c (TEm X S W mc)) (hm : lastMarks [op, op'] [b, c] = false := by with_unfolding_all rfl) : PT X (.Compare a [op, op'] [b, c] pos) (TTm X S W <| tBl (eChn g g' ma mb mc)) :=
  pt_chn (fun _ _ _ ha hb hc => pt_chain ho ho' ha hb hc hm) hr hr' ha hb hc
end
end Kw

set_option Elab.async false
set_option linter.all false
set_option maxRecDepth 100000
namespace K04
open PySem PySem.Spec PyProof.Rows L2 Kw
def d_CELL : D := .int 257
def d_BITS : D := .int 8
def d_MOST_ROWS : D := .int 40
def m_is_integer : SM := (sRet (eAndM (e1 (gIsi ["int"]) (eVar 0)) (eNotM (e1 (gIsi ["bool"]) (eVar 0)))))
def f_is_integer : FM := bodyM 1 m_is_integer
def m_is_number : SM := (sRet (eAndM (eCallP f_is_integer (aCons (eVar 0) aNil)) (e2 gGe (eVar 0) (eC (.int 0)))))
def f_is_number : FM := bodyM 1 m_is_number
def m_is_below : SM := (sRet (eAndM (eCallP f_is_number (aCons (eVar 0) aNil)) (e2 gLt (eVar 0) (eVar 1))))
def f_is_below : FM := bodyM 2 m_is_below
def m_is_sequence : SM := (sRet (e1 (gIsi ["list", "tuple"]) (eVar 0)))
def f_is_sequence : FM := bodyM 1 m_is_sequence
def m_times : SM := (sRet (e2 gMod (e2 gMul (eVar 0) (eVar 1)) (eC d_CELL)))
def f_times : FM := bodyM 2 m_times
def m_inverse : SM := (sSeq (sIf (tOrM (tNotM (tTru (eCallP f_is_below (aCons (eVar 0) (aCons (eC d_CELL) aNil))))) (tBl (e2 gEq (eVar 0) (eC (.int 0))))) sStop sNext) (sSeq (sPar 1 2 (aCons (eC (.int 1)) (aCons (eVar 0) aNil))) (sSeq (sFor (iRange1 (aCons (eC d_BITS) aNil)) (gNm 3) (sPar 1 2 (aCons (eCallP f_times (aCons (eVar 1) (aCons (eVar 2) aNil))) (aCons (eCallP f_times (aCons (eVar 2) (aCons (eVar 2) aNil))) aNil)))) (sRet (eVar 1)))))
def f_inverse : FM := bodyM 4 m_inverse
def m_check_row : SM := (sSeq (sIf (tOrM (tNotM (tTru (eCallP f_is_sequence (aCons (eVar 0) aNil)))) (tOrM (tBl (e2 gNe (eAs gLen (aCons (eVar 0) aNil)) (eVar 1))) (tNotM (tTru (eAs gAll (aCons (eLc (iSeq (eVar 0)) (gNm 2) tYesM (eCallP f_is_below (aCons (eVar 2) (aCons (eC d_CELL) aNil))) [2]) aNil)))))) sStop sNext) (sRet (eAs gTuple (aCons (eVar 0) aNil))))
def f_check_row : FM := bodyM 3 m_check_row
def m_check_rows : SM := (sSeq (sIf (tOrM (tNotM (tTru (eCallP f_is_sequence (aCons (eVar 0) aNil)))) (tOrM (tNotM (tBl (eChn gLe gLe (eC (.int 1)) (eAs gLen (aCons (eVar 0) aNil)) (eC d_MOST_ROWS)))) (tNotM (tTru (eCallP f_is_sequence (aCons (e2 gIx (eVar 0) (eC (.int 0))) aNil)))))) sStop sNext) (sSeq (sAsg (eAs gLen (aCons (e2 gIx (eVar 0) (eC (.int 0))) aNil)) (gNm 1)) (sSeq (sFor (iSeq (eVar 0)) (gNm 2) (sSeq (sIf (tOrM (tNotM (tBl (eChn gLe gLe (eC (.int 1)) (eVar 1) (eC d_MOST_ROWS)))) (tOrM (tNotM (tTru (eCallP f_is_sequence (aCons (eVar 2) aNil)))) (tBl (e2 gNe (eAs gLen (aCons (eVar 2) aNil)) (eVar 1))))) sStop sNext) (sIf (tNotM (tTru (eAs gAll (aCons (eLc (iSeq (eVar 2)) (gNm 3) tYesM (eCallP f_is_below (aCons (eVar 3) (aCons (eC d_CELL) aNil))) [3]) aNil)))) sStop sNext))) (sRet (eAs gTuple (aCons (eLc (iSeq (eVar 0)) (gNm 2) tYesM (eAs gTuple (aCons (eVar 2) aNil)) [2]) aNil))))))
def f_check_rows : FM := bodyM 4 m_check_rows
def m_product : SM := (sRet (e2 gMod (eAs gSum (aCons (eLc (iZip2 (aCons (eVar 0) (aCons (eVar 1) aNil))) (gSeq 2 (gsCons (gNm 2) (gsCons (gNm 3) gsNil))) tYesM (e2 gMul (eVar 2) (eVar 3)) [2, 3]) aNil)) (eC d_CELL)))
def f_product : FM := bodyM 4 m_product
def m_mixed : SM := (sRet (eAs gTuple (aCons (eLc (iZip2 (aCons (eVar 0) (aCons (eVar 2) aNil))) (gSeq 2 (gsCons (gNm 3) (gsCons (gNm 4) gsNil))) tYesM (e2 gMod (e2 gAdd (eVar 3) (e2 gMul (eVar 1) (eVar 4))) (eC d_CELL)) [3, 4]) aNil)))
def f_mixed : FM := bodyM 5 m_mixed
def m_sum_of_rows : SM := (sSeq (sAsg (e2 gRep (eAs gTupD (aCons (eC (.int 0)) aNil)) (eAs gLen (aCons (e2 gIx (eVar 0) (eC (.int 0))) aNil))) (gNm 2)) (sSeq (sFor (iZip2 (aCons (eVar 0) (aCons (eVar 1) aNil))) (gSeq 2 (gsCons (gNm 3) (gsCons (gNm 4) gsNil))) (sAsg (eCallP f_mixed (aCons (eVar 2) (aCons (eVar 4) (aCons (eVar 3) aNil)))) (gNm 2))) (sRet (eVar 2))))
def f_sum_of_rows : FM := bodyM 5 m_sum_of_rows
def m_first_column : SM := (sSeq (sFor (iEnu (aCons (eVar 0) aNil)) (gSeq 2 (gsCons (gNm 1) (gsCons (gNm 2) gsNil))) (sIf (tBl (e2 gNe (eVar 2) (eC (.int 0)))) (sRet (eVar 1)) sNext)) (sRet (eC .non)))
def f_first_column : FM := bodyM 3 m_first_column
def m_unit : SM := (sRet (eAs gTuple (aCons (eLc (iRange1 (aCons (eVar 0) aNil)) (gNm 2) tYesM (eAs gInt (aCons (e2 gEq (eVar 2) (eVar 1)) aNil)) [2]) aNil)))
def f_unit : FM := bodyM 3 m_unit
def m_cleared : SM := (sSeq (sAsg (e2 Kw.gSub (eC d_CELL) (e2 gIx (e2 gIx (eVar 0) (eC (.int 0))) (eVar 1))) (gNm 4)) (sRet (eAs gTupD (aCons (eCallP f_mixed (aCons (e2 gIx (eVar 0) (eC (.int 0))) (aCons (eVar 4) (aCons (eVar 2) aNil)))) (aCons (eCallP f_mixed (aCons (e2 gIx (eVar 0) (eC (.int 1))) (aCons (eVar 4) (aCons (eVar 3) aNil)))) aNil)))))
def f_cleared : FM := bodyM 5 m_cleared
def m_steps_and_rest : SM := (sSeq (sAsg (eLcN true (nOf (iEnu (aCons (eVar 0) aNil))) (gSeq 2 (gsCons (gNm 8) (gsCons (gNm 5) gsNil))) tYesM (eAs gTupD (aCons (eVar 5) (aCons (eCallP f_unit (aCons (eAs gLen (aCons (eVar 0) aNil)) (aCons (eVar 8) aNil))) aNil))) [8, 5]) (gNm 1)) (sSeq (sAsg (eAs gLstD aNil) (gNm 2)) (sSeq (sFor (iRange1 (aCons (eAs gLen (aCons (e2 gIx (eVar 0) (eC (.int 0))) aNil)) aNil)) (gNm 3) (sSeq (sAsg (eLcN false (nEnu (aCons (eVar 1) aNil)) (gSeq 2 (gsCons (gNm 8) (gsCons (gSeq 2 (gsCons (gNm 5) (gsCons (gNm 6) gsNil))) gsNil))) (tBl (e2 gNe (e2 gIx (eVar 5) (eVar 3)) (eC (.int 0)))) (eVar 8) [8, 5, 6]) (gNm 4)) (sSeq (sIf (tBl (e2 gEq (eAs gLen (aCons (eVar 4) aNil)) (eC (.int 0)))) sCont sNext) (sSeq (sAsg (eMtL gPop (eVar 1) (aCons (e2 gIx (eVar 4) (eC (.int 0))) aNil)) (gSeq 2 (gsCons (gNm 5) (gsCons (gNm 6) gsNil)))) (sSeq (sAsg (eCallP f_inverse (aCons (e2 gIx (eVar 5) (eVar 3)) aNil)) (gNm 7)) (sSeq (sAsg (eAs gTupD (aCons (eAs gTuple (aCons (eLc (iSeq (eVar 5)) (gNm 9) tYesM (eCallP f_times (aCons (eVar 9) (aCons (eVar 7) aNil))) [9]) aNil)) (aCons (eAs gTuple (aCons (eLc (iSeq (eVar 6)) (gNm 9) tYesM (eCallP f_times (aCons (eVar 9) (aCons (eVar 7) aNil))) [9]) aNil)) aNil))) (gSeq 2 (gsCons (gNm 5) (gsCons (gNm 6) gsNil)))) (sSeq (sAsg (eLcN true (nLoc (eVar 1)) (gNm 10) tYesM (eCallP f_cleared (aCons (eVar 10) (aCons (eVar 3) (aCons (eVar 5) (aCons (eVar 6) aNil))))) [10]) (gNm 1)) (sAsg (e2 gAdd (eLc (iSeq (eVar 2)) (gNm 10) tYesM (eCallP f_cleared (aCons (eVar 10) (aCons (eVar 3) (aCons (eVar 5) (aCons (eVar 6) aNil))))) [10]) (eAs gLstD (aCons (eAs gTupD (aCons (eVar 5) (aCons (eVar 6) aNil))) aNil))) (gNm 2))))))))) (sSeq (sFrz 1) (sRet (eAs gTupD (aCons (eVar 2) (aCons (eVar 1) aNil))))))))
def f_steps_and_rest : FM := bodyM 11 m_steps_and_rest
def m_free_row : SM := (sSeq (sAsg (eAsM gNewList (aCons (eCallP f_unit (aCons (eVar 3) (aCons (eVar 0) aNil))) aNil)) (gNm 4)) (sSeq (sFor (iZip2 (aCons (eVar 1) (aCons (eVar 2) aNil))) (gSeq 2 (gsCons (gNm 5) (gsCons (gSeq 2 (gsCons (gNm 6) (gsCons (gNm 7) gsNil))) gsNil))) (sAsg (e2 gMod (e2 Kw.gSub (eC d_CELL) (e2 gIx (eVar 6) (eVar 0))) (eC d_CELL)) (gSubM (eVar 4) (eVar 5)))) (sRet (eAs gTuple (aCons (eVar 4) aNil)))))
def f_free_row : FM := bodyM 8 m_free_row
def m_solve : SM := (sSeq (sAsg (eCallP f_check_rows (aCons (eVar 0) aNil)) (gNm 2)) (sSeq (sAsg (eCallP f_check_row (aCons (eVar 1) (aCons (eAs gLen (aCons (eVar 2) aNil)) aNil))) (gNm 3)) (sSeq (sAsg (eCallP f_steps_and_rest (aCons (eVar 2) aNil)) (gSeq 2 (gsCons (gNm 4) (gsCons (gNm 5) gsNil)))) (sSeq (sIf (tTru (eAs gAny (aCons (eLc (iSeq (eVar 5)) (gSeq 2 (gsCons (gNm 10) (gsCons (gNm 11) gsNil))) tYesM (e2 gNe (eCallP f_product (aCons (eVar 11) (aCons (eVar 3) aNil))) (eC (.int 0))) [10, 11]) aNil))) (sRet (eC .non)) sNext) (sSeq (sAsg (eAs gLen (aCons (e2 gIx (eVar 2) (eC (.int 0))) aNil)) (gNm 6)) (sSeq (sAsg (eLc (iSeq (eVar 4)) (gSeq 2 (gsCons (gNm 10) (gsCons (gNm 11) gsNil))) tYesM (eCallP f_first_column (aCons (eVar 10) aNil)) [10, 11]) (gNm 7)) (sSeq (sAsg (eNewRep (eAs gLstD (aCons (eC (.int 0)) aNil)) (eVar 6)) (gNm 8)) (sSeq (sFor (iZip2 (aCons (eVar 7) (aCons (eVar 4) aNil))) (gSeq 2 (gsCons (gNm 9) (gsCons (gSeq 2 (gsCons (gNm 10) (gsCons (gNm 11) gsNil))) gsNil))) (sAsg (eCallP f_product (aCons (eVar 11) (aCons (eVar 3) aNil))) (gSubM (eVar 8) (eVar 9)))) (sSeq (sAsg (eLc (iRange1 (aCons (eVar 6) aNil)) (gNm 9) (tBl (e2 gNin (eVar 9) (eVar 7))) (eVar 9) [9]) (gNm 12)) (sRet (eAs gTupD (aCons (eAs gTuple (aCons (eVar 8) aNil)) (aCons (eAs gTuple (aCons (eLc (iSeq (eVar 12)) (gNm 9) tYesM (eCallP f_free_row (aCons (eVar 9) (aCons (eVar 7) (aCons (eVar 4) (aCons (eVar 6) aNil))))) [9]) aNil)) aNil)))))))))))))
def f_solve : FM := bodyM 13 m_solve
def m_reasons : SM := (sSeq (sAsg (eCallP f_check_rows (aCons (eVar 0) aNil)) (gNm 2)) (sSeq (sAsg (eCallP f_check_row (aCons (eVar 1) (aCons (eAs gLen (aCons (eVar 2) aNil)) aNil))) (gNm 3)) (sSeq (sFor (iSeq (e2 gIx (eCallP f_steps_and_rest (aCons (eVar 2) aNil)) (eC (.int 1)))) (gSeq 2 (gsCons (gNm 4) (gsCons (gNm 5) gsNil))) (sSeq (sAsg (eCallP f_product (aCons (eVar 5) (aCons (eVar 3) aNil))) (gNm 6)) (sIf (tBl (e2 gNe (eVar 6) (eC (.int 0)))) (sSeq (sAsg (eCallP f_inverse (aCons (eVar 6) aNil)) (gNm 7)) (sRet (eAs gTuple (aCons (eLc (iSeq (eVar 5)) (gNm 8) tYesM (eCallP f_times (aCons (eVar 8) (aCons (eVar 7) aNil))) [8]) aNil)))) sNext))) (sRet (eC .non)))))
def f_reasons : FM := bodyM 9 m_reasons
def m_is_row_of : SM := (sRet (eAndM (eCallP f_is_sequence (aCons (eVar 0) aNil)) (eAndM (e2 gEq (eAs gLen (aCons (eVar 0) aNil)) (eVar 1)) (eAs gAll (aCons (eLc (iSeq (eVar 0)) (gNm 2) tYesM (eCallP f_is_below (aCons (eVar 2) (aCons (eC d_CELL) aNil))) [2]) aNil)))))
def f_is_row_of : FM := bodyM 3 m_is_row_of
def m_solution_holds : SM := (sSeq (sAsg (eCallP f_check_rows (aCons (eVar 0) aNil)) (gNm 3)) (sSeq (sAsg (eCallP f_check_row (aCons (eVar 1) (aCons (eAs gLen (aCons (eVar 3) aNil)) aNil))) (gNm 4)) (sSeq (sIf (tNotM (tTru (eCallP f_is_row_of (aCons (eVar 2) (aCons (eAs gLen (aCons (e2 gIx (eVar 3) (eC (.int 0))) aNil)) aNil))))) (sRet (eC (.bl false))) sNext) (sRet (eAs gAll (aCons (eLc (iZip2 (aCons (eVar 3) (aCons (eVar 4) aNil))) (gSeq 2 (gsCons (gNm 5) (gsCons (gNm 6) gsNil))) tYesM (e2 gEq (eCallP f_product (aCons (eVar 5) (aCons (eVar 2) aNil))) (eVar 6)) [5, 6]) aNil))))))
def f_solution_holds : FM := bodyM 7 m_solution_holds
def m_reasons_hold : SM := (sSeq (sAsg (eCallP f_check_rows (aCons (eVar 0) aNil)) (gNm 3)) (sSeq (sAsg (eCallP f_check_row (aCons (eVar 1) (aCons (eAs gLen (aCons (eVar 3) aNil)) aNil))) (gNm 4)) (sSeq (sIf (tNotM (tTru (eCallP f_is_row_of (aCons (eVar 2) (aCons (eAs gLen (aCons (eVar 3) aNil)) aNil))))) (sRet (eC (.bl false))) sNext) (sRet (eAndM (eNotM (eAs gAnyF (aCons (eCallP f_sum_of_rows (aCons (eVar 3) (aCons (eVar 2) aNil))) aNil))) (e2 gNe (eCallP f_product (aCons (eVar 2) (aCons (eVar 4) aNil))) (eC (.int 0))))))))
def f_reasons_hold : FM := bodyM 5 m_reasons_hold
def m__law_box : SM := (sSeq (sAsg (e2 gAdd (e2 gMul (eC (.int 9677)) (eVar 1)) (eC (.int 487))) (gNm 2)) (sSeq (sIf (tBl (e2 gLt (eVar 1) (eAs gLen (aCons (eVar 0) aNil)))) (sAsg (eAs gAbs (aCons (e2 gIx (eVar 0) (eVar 1)) aNil)) (gNm 2)) (sIf (tBl (e2 gGt (eAs gLen (aCons (eVar 0) aNil)) (eC (.int 0)))) (sAsg (e2 gAdd (eVar 2) (e2 gMul (e2 gMod (eAs gInt (aCons (eAs gAbs (aCons (e2 gIx (eVar 0) (e2 gMod (eAs gInt (aCons (eVar 1) aNil)) (eAs gLen (aCons (eVar 0) aNil)))) aNil)) aNil)) (eC (.int 2147483477))) (eC (.int 49307)))) (gNm 2)) sNext)) (sRet (eAsM gNewL (aCons (e2 gIx (eAs gLstD (aCons (eC (.int 0)) (aCons (eVar 2) aNil))) (eAs gInt (aCons (e2 gGe (eVar 2) (e2 gPow (eC (.int 10)) (eC (.int 18)))) aNil))) (aCons (e2 gAdd (e2 gMod (eAs gInt (aCons (e2 gAdd (e2 gMul (e2 gMod (eAs gInt (aCons (eVar 2) aNil)) (eC (.int 2147483477))) (eC (.int 39827))) (e2 gMul (eC (.int 38011)) (eVar 1))) aNil)) (eC (.int 2147483477))) (eC (.int 1))) (aCons (eC (.int 0)) aNil)))))))
def f__law_box : FM := bodyM 3 m__law_box
def m__law_take : SM := (sSeq (sIf (tBl (e2 gGt (e2 gIx (eVar 0) (eC (.int 0))) (eC (.int 0)))) (sSeq (sAsg (e2 gMod (eAs gInt (aCons (e2 gIx (eVar 0) (eC (.int 0))) aNil)) (eVar 1)) (gNm 2)) (sSeq (sAsg (e2 gFdv (e2 gIx (eVar 0) (eC (.int 0))) (eVar 1)) (gSubM (eVar 0) (eC (.int 0)))) (sRet (eVar 2)))) sNext) (sSeq (sAsg (e2 gAdd (e2 gIx (eVar 0) (eC (.int 2))) (eC (.int 1))) (gSubM (eVar 0) (eC (.int 2)))) (sSeq (sAsg (e2 gMod (eAs gInt (aCons (e2 gAdd (e2 gMul (e2 gAdd (e2 gIx (eVar 0) (eC (.int 1))) (e2 gMul (eC (.int 68023)) (e2 gIx (eVar 0) (eC (.int 2))))) (eC (.int 53257))) (eC (.int 73))) aNil)) (eC (.int 2147483423))) (gNm 3)) (sSeq (sAsg (e2 gAdd (e2 gMod (eAs gInt (aCons (e2 gAdd (e2 gMul (eVar 3) (eC (.int 49109))) (eC (.int 12007))) aNil)) (eC (.int 2147483477))) (eC (.int 1))) (gSubM (eVar 0) (eC (.int 1)))) (sRet (e2 gMod (eAs gInt (aCons (e2 gFdv (e2 gAdd (e2 gMul (eVar 3) (eC (.int 2147483629))) (e2 gIx (eVar 0) (eC (.int 1)))) (eC (.int 8191))) aNil)) (eVar 1)))))))
def f__law_take : FM := bodyM 4 m__law_take
def m__law_pick : SM := (sRet (e2 gIx (eVar 1) (eCallM f__law_take (aCons (eVar 0) (aCons (eAs gLen (aCons (eVar 1) aNil)) aNil)))))
def f__law_pick : FM := bodyM 2 m__law_pick
def m__law_rows : SM := (sSeq (sAsg (eAs gTupD (aCons (e2 gAdd (eC (.int 1)) (eCallM f__law_take (aCons (eVar 0) (aCons (eVar 1) aNil)))) (aCons (eCallM f__law_take (aCons (eVar 0) (aCons (eC (.int 4)) aNil))) aNil))) (gSeq 2 (gsCons (gNm 2) (gsCons (gNm 3) gsNil)))) (sSeq (sAsg (eAsM gNewL aNil) (gNm 4)) (sSeq (sFor (iRange1 (aCons (e2 gAdd (eC (.int 1)) (eCallM f__law_take (aCons (eVar 0) (aCons (eVar 1) aNil)))) aNil)) (gNm 5) (sSeq (sAsg (eAs gTuple (aCons (eLc (iRange1 (aCons (eVar 2) aNil)) (gNm 10) tYesM (eIfM (tBl (e2 gLt (eVar 3) (eC (.int 3)))) (eCallM f__law_pick (aCons (eVar 0) (aCons (eAs gLstD (aCons (eC (.int 0)) (aCons (eC (.int 1)) (aCons (eC (.int 256)) (aCons (eCallM f__law_take (aCons (eVar 0) (aCons (eC (.int 257)) aNil))) aNil))))) aNil))) (eCallM f__law_take (aCons (eVar 0) (aCons (eC (.int 3)) aNil)))) [10]) aNil)) (gNm 6)) (sSeq (sIf (tAndM (tBl (e2 gEq (eVar 3) (eC (.int 1)))) (tBl (e2 gNe (eVar 4) (eAs gLstD aNil)))) (sSeq (sPar 7 8 (aCons (eCallM f__law_pick (aCons (eVar 0) (aCons (eVar 4) aNil))) (aCons (eCallM f__law_pick (aCons (eVar 0) (aCons (eVar 4) aNil))) aNil))) (sSeq (sAsg (eCallM f__law_take (aCons (eVar 0) (aCons (eC (.int 257)) aNil))) (gNm 9)) (sAsg (eAs gTuple (aCons (eLc (iZip2 (aCons (eVar 7) (aCons (eVar 8) aNil))) (gSeq 2 (gsCons (gNm 11) (gsCons (gNm 12) gsNil))) tYesM (e2 gMod (eAs gInt (aCons (e2 gAdd (eVar 11) (e2 gMul (eVar 9) (eVar 12))) aNil)) (eC (.int 257))) [11, 12]) aNil)) (gNm 6)))) sNext) (sDrop (eMtL gAppend (eVar 4) (aCons (eVar 6) aNil)))))) (sSeq (sFrz 4) (sRet (eVar 4))))))
def f__law_rows : FM := bodyM 13 m__law_rows
def m__law_product : SM := (sRet (e2 gMod (eAs gInt (aCons (eAs gSum (aCons (eLc (iZip2 (aCons (eVar 0) (aCons (eVar 1) aNil))) (gSeq 2 (gsCons (gNm 2) (gsCons (gNm 3) gsNil))) tYesM (e2 gMul (eVar 2) (eVar 3)) [2, 3]) aNil)) aNil)) (eC (.int 257))))
def f__law_product : FM := bodyM 4 m__law_product
def m__law_sum : SM := (sRet (eAs gTuple (aCons (eLc (iRange1 (aCons (eAs gLen (aCons (e2 gIx (eVar 0) (eC (.int 0))) aNil)) aNil)) (gNm 2) tYesM (eCallP f__law_product (aCons (eLc (iSeq (eVar 0)) (gNm 3) tYesM (e2 gIx (eVar 3) (eVar 2)) [3]) (aCons (eVar 1) aNil))) [2]) aNil)))
def f__law_sum : FM := bodyM 4 m__law_sum
def m__law_is_row : SM := (sSeq (sIf (tOrM (tNotM (tTru (e1 (gIsi ["list", "tuple"]) (eVar 0)))) (tBl (e2 gNe (eAs gLen (aCons (eVar 0) aNil)) (eVar 1)))) (sRet (eC (.bl false))) sNext) (sRet (e2 gEq (eLc (iSeq (eVar 0)) (gNm 2) (tOrM (tNotM (tTru (e1 (gIsi ["int"]) (eVar 2)))) (tOrM (tTru (e1 (gIsi ["bool"]) (eVar 2))) (tNotM (tBl (eChn gLe gLt (eC (.int 0)) (eVar 2) (eC (.int 257))))))) (eVar 2) [2]) (eAs gLstD aNil))))
def f__law_is_row : FM := bodyM 3 m__law_is_row
def m__law_bent : SM := (sSeq (sAsg (eIfM (tBl (e2 gIsNot (eVar 2) (eC .non))) (eAsM gNewList (aCons (eVar 2) aNil)) (eLcN true (nOf (iRange1 (aCons (eVar 1) aNil))) (gNm 7) tYesM (eCallM f__law_take (aCons (eVar 0) (aCons (eC (.int 257)) aNil))) [7])) (gNm 3)) (sSeq (sAsg (eCallM f__law_take (aCons (eVar 0) (aCons (eVar 1) aNil))) (gNm 4)) (sSeq (sAsg (eCallM f__law_pick (aCons (eVar 0) (aCons (eAs gLstD (aCons (e2 gIx (eVar 3) (eVar 4)) (aCons (e2 gIx (eVar 3) (eVar 4)) (aCons (e2 gMod (eAs gInt (aCons (e2 gAdd (e2 gIx (eVar 3) (eVar 4)) (eC (.int 1))) aNil)) (eC (.int 257))) (aCons (eC (.int 257)) (aCons (e2 Kw.gSub (eC (.int 0)) (eC (.int 1))) (aCons (eC .non) (aCons (eC (.bl true)) (aCons (eC (.str "0")) (aCons (eAs gTupD (aCons (eC (.int 0)) aNil)) aNil)))))))))) aNil))) (gSubM (eVar 3) (eVar 4))) (sSeq (sAsg (e2 gAdd (eC (.int 1)) (eCallM f__law_take (aCons (eVar 0) (aCons (eC (.int 256)) aNil)))) (gNm 5)) (sSeq (sFrz 3) (sSeq (sAsg (eLc (iSeq (eVar 3)) (gNm 7) tYesM (eIfM (tAndM (tTru (e1 (gIsi ["int"]) (eVar 7))) (tAndM (tNotM (tTru (e1 (gIsi ["bool"]) (eVar 7)))) (tBl (eChn gLe gLt (eC (.int 0)) (eVar 7) (eC (.int 257)))))) (e2 gMod (eAs gInt (aCons (e2 gMul (eVar 7) (eVar 5)) aNil)) (eC (.int 257))) (eVar 7)) [7]) (gNm 6)) (sRet (eCallM f__law_pick (aCons (eVar 0) (aCons (eAs gLstD (aCons (eVar 3) (aCons (eAs gTuple (aCons (eVar 3) aNil)) (aCons (eVar 6) (aCons (eVar 6) (aCons (eSl (eVar 3) (oSome (eC (.int 1))) oNo) (aCons (e2 gAdd (eVar 3) (eAs gLstD (aCons (eC (.int 0)) aNil))) (aCons (e2 gRep (eAs gLstD (aCons (eC (.int 0)) aNil)) (eVar 1)) (aCons (eC .non) (aCons (e2 gRep (eC (.str "0")) (eVar 1)) (aCons (eC (.int 0)) aNil))))))))))) aNil))))))))))
def f__law_bent : FM := bodyM 8 m__law_bent
def m_law_b1 : SM := (sSeq (sAsg (eAndM (eCallP f__law_is_row (aCons (eVar 7) (aCons (eAs gLen (aCons (e2 gIx (eVar 3) (eC (.int 0))) aNil)) aNil))) (e2 gEq (eLc (iSeq (eVar 3)) (gNm 11) tYesM (eCallP f__law_product (aCons (eVar 11) (aCons (eVar 7) aNil))) [11]) (eAs gList (aCons (eVar 4) aNil)))) (gNm 10)) (sSeq (sIf (tBl (e2 gNe (eAs gRepr (aCons (eAs gLstD (aCons (eCallP f_solution_holds (aCons (eVar 3) (aCons (eVar 4) (aCons (eVar 7) aNil)))) (aCons (eCallK0 f_solution_holds [2, 1, 0] (aCons (eVar 7) (aCons (eAs gList (aCons (eVar 4) aNil)) (aCons (eAs gTuple (aCons (eVar 3) aNil)) aNil)))) aNil))) aNil)) (eAs gRepr (aCons (eAs gLstD (aCons (eVar 10) (aCons (eVar 10) aNil))) aNil)))) (sRet (eC (.bl false))) sNext) (sSeq (sAsg (eAndM (eCallP f__law_is_row (aCons (eVar 8) (aCons (eAs gLen (aCons (eVar 3) aNil)) aNil))) (eAndM (eNotM (eAs gAnyF (aCons (eCallP f__law_sum (aCons (eVar 3) (aCons (eVar 8) aNil))) aNil))) (e2 gNe (eCallP f__law_product (aCons (eVar 8) (aCons (eVar 4) aNil))) (eC (.int 0))))) (gNm 10)) (sSeq (sIf (tBl (e2 gNe (eAs gRepr (aCons (eAs gLstD (aCons (eCallP f_reasons_hold (aCons (eVar 3) (aCons (eVar 4) (aCons (eVar 8) aNil)))) (aCons (eCallK0 f_reasons_hold [2, 1, 0] (aCons (eVar 8) (aCons (eAs gList (aCons (eVar 4) aNil)) (aCons (eAs gTuple (aCons (eVar 3) aNil)) aNil)))) aNil))) aNil)) (eAs gRepr (aCons (eAs gLstD (aCons (eVar 10) (aCons (eVar 10) aNil))) aNil)))) (sRet (eC (.bl false))) sNext) (sSeq (sIf (tAndM (tTru (eVar 10)) (tBl (e2 gIsNot (eVar 5) (eC .non)))) (sRet (eC (.bl false))) sNext) (sAsg (eAs gTupD (aCons (eCallM f__law_bent (aCons (eVar 2) (aCons (eAs gLen (aCons (e2 gIx (eVar 3) (eC (.int 0))) aNil)) (aCons (eIfM (tBl (e2 gIsNot (eVar 5) (eC .non))) (e2 gIx (eVar 5) (eC (.int 0))) (eC .non)) aNil)))) (aCons (eCallM f__law_bent (aCons (eVar 2) (aCons (eAs gLen (aCons (eVar 3) aNil)) (aCons (eVar 6) aNil)))) aNil))) (gSeq 2 (gsCons (gNm 7) (gsCons (gNm 8) gsNil)))))))))
def m_law_b2 : SM := (sSeq (sAsg (eCallM f__law_box (aCons (eVar 0) (aCons (eVar 1) aNil))) (gNm 2)) (sSeq (sAsg (eCallM f__law_rows (aCons (eVar 2) (aCons (eC (.int 5)) aNil))) (gNm 3)) (sSeq (sAsg (eAs gTuple (aCons (eLc (iSeq (eVar 3)) (gNm 11) tYesM (e2 gMul (eCallM f__law_take (aCons (eVar 2) (aCons (eC (.int 257)) aNil))) (eAs gInt (aCons (e2 gNe (eVar 1) (eC (.int 1))) aNil))) [11]) aNil)) (gNm 4)) (sSeq (sPar 5 6 (aCons (eCallP f_solve (aCons (eVar 3) (aCons (eVar 4) aNil))) (aCons (eCallP f_reasons (aCons (eVar 3) (aCons (eVar 4) aNil))) aNil))) (sSeq (sAsg (eAs gTupD (aCons (eIfM (tBl (e2 gIsNot (eVar 5) (eC .non))) (e2 gIx (eVar 5) (eC (.int 0))) (eC .non)) (aCons (eVar 6) aNil))) (gSeq 2 (gsCons (gNm 7) (gsCons (gNm 8) gsNil)))) (sFor (iRange1 (aCons (eC (.int 9)) aNil)) (gNm 9) m_law_b1))))))
def m_law : SM := (sSeq (sFor (iRange1 (aCons (eC (.int 3)) aNil)) (gNm 1) m_law_b2) (sRet (eC (.bl true))))
def f_law : FM := bodyM 12 m_law
end K04

set_option Elab.async false
set_option linter.all false
set_option maxRecDepth 100000
namespace K04
open PySem PySem.Spec PyProof.Rows L2 Kw
def top (i : Nat) : Stmt := PySem.Challenge.pw_keptwhole_k04_papers_of_systems_bent.main.body.getD i (.Pass ⟨0, 0, 0, 0⟩)
section
variable {P : Program} {w : World} {K : PySem.W.Frag} {mg : Str → Option Value} {base : Heap} {T : List (Addr × Str)} {f : Addr} {fd : FuncData}
abbrev s_is_integer : Stmt := top 4
abbrev N_is_integer : List Str := ["value"]
theorem sc_is_integer : FnScope N_is_integer ["value"] (defScope s_is_integer) := ⟨rfl, rfl, rfl, by decide +kernel, rfl, by decide +kernel, by decide +kernel⟩
theorem ok_is_integer (F : FnP K "is_integer" s_is_integer f fd) (gm : mg "is_integer" = some (.ref f)) (b_isinstance : mg "isinstance" = none) (b_int : mg "int" = none) (b_bool : mg "bool" = none) : CalD P w K mg base T "is_integer" s_is_integer 1 ["value"] f_is_integer :=
  CalD.mk' F gm (fun _ _ _ _ _ _ us hl => match us, hl with | [_], _ => rfl) (fnG_of F sc_is_integer rfl fun cdv A outer s H E hr hgd tk =>
    have sc := sc_is_integer
    (pss_one' (ps_ret' (pe_and' (pe_isi1 (n := "int") (by decide) rfl b_isinstance (pe_bltn rfl b_int (by decide +kernel) rfl) (pv' 0)) (pe_and1' (pe_not' (pe_isi1 (n := "bool") (by decide) rfl b_isinstance (pe_bltn rfl b_bool (by decide +kernel) rfl) (pv' 0))))))))
abbrev s_is_number : Stmt := top 5
abbrev N_is_number : List Str := ["value"]
theorem sc_is_number : FnScope N_is_number ["value"] (defScope s_is_number) := ⟨rfl, rfl, rfl, by decide +kernel, rfl, by decide +kernel, by decide +kernel⟩
theorem ok_is_number (F : FnP K "is_number" s_is_number f fd) (gm : mg "is_number" = some (.ref f)) (C_is_integer : CalD P w K mg base T "is_integer" s_is_integer 1 ["value"] f_is_integer) : CalD P w K mg base T "is_number" s_is_number 2 ["value"] f_is_number :=
  CalD.mk' F gm (fun _ _ _ _ _ _ us hl => match us, hl with | [_], _ => rfl) (fnG_of F sc_is_number rfl fun cdv A outer s H E hr hgd tk =>
    have sc := sc_is_number
    (pss_one' (ps_ret' (pe_and' (pe_P C_is_integer (passT tk) hr (by decide) hgd rfl (pa_cons' (pv' 0) pa_nil') (aCons_len aNil_len) rfl) (pe_and1' (pe_ge' (pv' 0) (pe_C' pe_int fun _ => .int _)))))))
abbrev s_is_below : Stmt := top 6
abbrev N_is_below : List Str := ["value", "most"]
theorem sc_is_below : FnScope N_is_below ["value", "most"] (defScope s_is_below) := ⟨rfl, rfl, rfl, by decide +kernel, rfl, by decide +kernel, by decide +kernel⟩
theorem ok_is_below (F : FnP K "is_below" s_is_below f fd) (gm : mg "is_below" = some (.ref f)) (C_is_number : CalD P w K mg base T "is_number" s_is_number 2 ["value"] f_is_number) : CalD P w K mg base T "is_below" s_is_below 3 ["value", "most"] f_is_below :=
  CalD.mk' F gm (fun _ _ _ _ _ _ us hl => match us, hl with | [_, _], _ => rfl) (fnG_of F sc_is_below rfl fun cdv A outer s H E hr hgd tk =>
    have sc := sc_is_below
    (pss_one' (ps_ret' (pe_and' (pe_P C_is_number (passT tk) hr (by decide) hgd rfl (pa_cons' (pv' 0) pa_nil') (aCons_len aNil_len) rfl) (pe_and1' (pe_lt' (pv' 0) (pv' 1)))))))
abbrev s_is_sequence : Stmt := top 7
abbrev N_is_sequence : List Str := ["value"]
theorem sc_is_sequence : FnScope N_is_sequence ["value"] (defScope s_is_sequence) := ⟨rfl, rfl, rfl, by decide +kernel, rfl, by decide +kernel, by decide +kernel⟩
theorem ok_is_sequence (F : FnP K "is_sequence" s_is_sequence f fd) (gm : mg "is_sequence" = some (.ref f)) (b_isinstance : mg "isinstance" = none) (b_tuple : mg "tuple" = none) (b_list : mg "list" = none) : CalD P w K mg base T "is_sequence" s_is_sequence 1 ["value"] f_is_sequence :=
  CalD.mk' F gm (fun _ _ _ _ _ _ us hl => match us, hl with | [_], _ => rfl) (fnG_of F sc_is_sequence rfl fun cdv A outer s H E hr hgd tk =>
    have sc := sc_is_sequence
    (pss_one' (ps_ret' (pe_isiT (ns := ["list", "tuple"]) (by decide) (by decide) rfl b_isinstance (pa_tyS (pe_bltn (v := .ty "list") rfl b_list (by decide +kernel) rfl) (pa_tyS (pe_bltn (v := .ty "tuple") rfl b_tuple (by decide +kernel) rfl) pa_ty0)) (pv' 0)))))
abbrev s_times : Stmt := top 12
abbrev N_times : List Str := ["one", "other"]
theorem sc_times : FnScope N_times ["one", "other"] (defScope s_times) := ⟨rfl, rfl, rfl, by decide +kernel, rfl, by decide +kernel, by decide +kernel⟩
theorem ok_times (F : FnP K "times" s_times f fd) (gm : mg "times" = some (.ref f)) (c_CELL : GlD K mg "CELL" d_CELL) : CalD P w K mg base T "times" s_times 1 ["one", "other"] f_times :=
  CalD.mk' F gm (fun _ _ _ _ _ _ us hl => match us, hl with | [_, _], _ => rfl) (fnG_of F sc_times rfl fun cdv A outer s H E hr hgd tk =>
    have sc := sc_times
    (pss_one' (ps_ret' (pe_mod' (pe_mul' (pv' 0) (pv' 1)) (pe_gD rfl c_CELL)))))
abbrev s_inverse : Stmt := top 13
abbrev N_inverse : List Str := ["cell", "found", "square", "_"]
theorem sc_inverse : FnScope N_inverse ["cell"] (defScope s_inverse) := ⟨rfl, rfl, rfl, by decide +kernel, rfl, by decide +kernel, by decide +kernel⟩
theorem ok_inverse (F : FnP K "inverse" s_inverse f fd) (gm : mg "inverse" = some (.ref f)) (b_range : mg "range" = none) (c_CELL : GlD K mg "CELL" d_CELL) (c_BITS : GlD K mg "BITS" d_BITS) (C_is_below : CalD P w K mg base T "is_below" s_is_below 3 ["value", "most"] f_is_below) (C_times : CalD P w K mg base T "times" s_times 1 ["one", "other"] f_times) : CalD P w K mg base T "inverse" s_inverse 4 ["cell"] f_inverse :=
  CalD.mk' F gm (fun _ _ _ _ _ _ us hl => match us, hl with | [_], _ => rfl) (fnG_of F sc_inverse rfl fun cdv A outer s H E hr hgd tk =>
    have sc := sc_inverse
    (pss_cons' (ps_if' (PW.pt (pw_or' (pt_not' (pt_tru' (pe_P C_is_below (passT tk) hr (by decide) hgd rfl (pa_cons' (pv' 0) (pa_cons' (pe_gD rfl c_CELL) pa_nil')) (aCons_len (aCons_len aNil_len)) rfl))) (pw_or1' (pt_eq' (u64 hr) (pv' 0) (pe_C' pe_int fun _ => .int _))))) (pss_one' ps_stop') pss_nil') (pss_cons' (ps_par' (i := 1) (j := 2) rfl sc.nd rfl rfl (by decide) rfl rfl (pa_cons' (pe_C' pe_int fun _ => .int _) (pa_cons' (pv' 0) pa_nil')) (by with_unfolding_all rfl)) (pss_cons' (ps_for' (passes_of rfl) rfl (pi_range1' rfl b_range (pa_cons' (pe_gD rfl c_BITS) pa_nil')) (pg_name' (i := 3) sc.nd rfl (by first | exact Or.inl rfl | exact Or.inr rfl)) (pss_one' (ps_par' (i := 1) (j := 2) rfl sc.nd rfl rfl (by decide) rfl rfl (pa_cons' (pe_P C_times (passT tk) hr (by decide) hgd rfl (pa_cons' (pv' 1) (pa_cons' (pv' 2) pa_nil')) (aCons_len (aCons_len aNil_len)) rfl) (pa_cons' (pe_P C_times (passT tk) hr (by decide) hgd rfl (pa_cons' (pv' 2) (pa_cons' (pv' 2) pa_nil')) (aCons_len (aCons_len aNil_len)) rfl) pa_nil')) (by with_unfolding_all rfl)))) (pss_one' (ps_ret' (pv' 1)))))))
abbrev s_check_row : Stmt := top 14
abbrev N_check_row : List Str := ["value", "width", "cell"]
theorem sc_check_row : FnScope N_check_row ["value", "width"] (defScope s_check_row) := ⟨rfl, rfl, rfl, by decide +kernel, rfl, by decide +kernel, by decide +kernel⟩
theorem ok_check_row (F : FnP K "check_row" s_check_row f fd) (gm : mg "check_row" = some (.ref f)) (b_len : mg "len" = none) (b_all : mg "all" = none) (b_tuple : mg "tuple" = none) (c_CELL : GlD K mg "CELL" d_CELL) (C_is_sequence : CalD P w K mg base T "is_sequence" s_is_sequence 1 ["value"] f_is_sequence) (C_is_below : CalD P w K mg base T "is_below" s_is_below 3 ["value", "most"] f_is_below) : CalD P w K mg base T "check_row" s_check_row 4 ["value", "width"] f_check_row :=
  CalD.mk' F gm (fun _ _ _ _ _ _ us hl => match us, hl with | [_, _], _ => rfl) (fnG_of F sc_check_row rfl fun cdv A outer s H E hr hgd tk =>
    have sc := sc_check_row
    (pss_cons' (ps_if' (PW.pt (pw_or' (pt_not' (pt_tru' (pe_P C_is_sequence (passT tk) hr (by decide) hgd rfl (pa_cons' (pv' 0) pa_nil') (aCons_len aNil_len) rfl))) (pw_or' (pt_ne' (u64 hr) (pe_len' rfl b_len (pa_cons' (pv' 0) pa_nil')) (pv' 1)) (pw_or1' (pt_not' (pt_tru' (pe_all' rfl rfl b_all (pa_cons' (pe_lc' (own := [("cell", 2)]) rfl sc.nd (pi_seq' (pv' 0)) (blkOk_by (N := N_check_row) (sc := defScope s_check_row) (own := [("cell", 2)]) (by decide +kernel)) (nmTg (by decide)) (fun _ _ _ _ _ => (pg_name (i := 2) sc.nd rfl (by first | exact Or.inl rfl | exact Or.inr rfl))) (fun _ _ _ _ _ => pts_nil') (fun _ _ _ _ _ => (pe_P C_is_below pass0 hr (by decide) hgd rfl (pa_cons' (pv' 2) (pa_cons' (pe_gD rfl c_CELL) pa_nil')) (aCons_len (aCons_len aNil_len)) rfl))) pa_nil')))))))) (pss_one' ps_stop') pss_nil') (pss_one' (ps_ret' (pe_tuple' rfl b_tuple (pa_cons' (pv' 0) pa_nil'))))))
abbrev s_check_rows : Stmt := top 15
abbrev N_check_rows : List Str := ["value", "width", "row", "cell"]
theorem sc_check_rows : FnScope N_check_rows ["value"] (defScope s_check_rows) := ⟨rfl, rfl, rfl, by decide +kernel, rfl, by decide +kernel, by decide +kernel⟩
theorem ok_check_rows (F : FnP K "check_rows" s_check_rows f fd) (gm : mg "check_rows" = some (.ref f)) (b_len : mg "len" = none) (b_all : mg "all" = none) (b_tuple : mg "tuple" = none) (c_MOST_ROWS : GlD K mg "MOST_ROWS" d_MOST_ROWS) (c_CELL : GlD K mg "CELL" d_CELL) (C_is_sequence : CalD P w K mg base T "is_sequence" s_is_sequence 1 ["value"] f_is_sequence) (C_is_below : CalD P w K mg base T "is_below" s_is_below 3 ["value", "most"] f_is_below) : CalD P w K mg base T "check_rows" s_check_rows 4 ["value"] f_check_rows :=
  CalD.mk' F gm (fun _ _ _ _ _ _ us hl => match us, hl with | [_], _ => rfl) (fnG_of F sc_check_rows rfl fun cdv A outer s H E hr hgd tk =>
    have sc := sc_check_rows
    (pss_cons' (ps_if' (PW.pt (pw_or' (pt_not' (pt_tru' (pe_P C_is_sequence (passT tk) hr (by decide) hgd rfl (pa_cons' (pv' 0) pa_nil') (aCons_len aNil_len) rfl))) (pw_or' (pt_not' (pt_chn' op_le op_le (fun _ _ _ _ => le_r) (fun _ _ _ _ => le_r) (pe_C' pe_int fun _ => .int _) (pe_len' rfl b_len (pa_cons' (pv' 0) pa_nil')) (pe_gD rfl c_MOST_ROWS))) (pw_or1' (pt_not' (pt_tru' (pe_P C_is_sequence (passT tk) hr (by decide) hgd rfl (pa_cons' (pe_ix' (fun _ _ => rfl) (pv' 0) (pe_C' pe_int fun _ => .int _)) pa_nil') (aCons_len aNil_len) rfl))))))) (pss_one' ps_stop') pss_nil') (pss_cons' (ps_set' (i := 1) sc.nd rfl (by first | exact Or.inl rfl | exact Or.inr rfl) (pe_len' rfl b_len (pa_cons' (pe_ix' (fun _ _ => rfl) (pv' 0) (pe_C' pe_int fun _ => .int _)) pa_nil'))) (pss_cons' (ps_for' (passes_of rfl) rfl (pi_seq' (pv' 0)) (pg_name' (i := 2) sc.nd rfl (by first | exact Or.inl rfl | exact Or.inr rfl)) (pss_cons' (ps_if' (PW.pt (pw_or' (pt_not' (pt_chn' op_le op_le (fun _ _ _ _ => le_r) (fun _ _ _ _ => le_r) (pe_C' pe_int fun _ => .int _) (pv' 1) (pe_gD rfl c_MOST_ROWS))) (pw_or' (pt_not' (pt_tru' (pe_P C_is_sequence (passT tk) hr (by decide) hgd rfl (pa_cons' (pv' 2) pa_nil') (aCons_len aNil_len) rfl))) (pw_or1' (pt_ne' (u64 hr) (pe_len' rfl b_len (pa_cons' (pv' 2) pa_nil')) (pv' 1)))))) (pss_one' ps_stop') pss_nil') (pss_one' (ps_if' (pt_not' (pt_tru' (pe_all' rfl rfl b_all (pa_cons' (pe_lc' (own := [("cell", 3)]) rfl sc.nd (pi_seq' (pv' 2)) (blkOk_by (N := N_check_rows) (sc := defScope s_check_rows) (own := [("cell", 3)]) (by decide +kernel)) (nmTg (by decide)) (fun _ _ _ _ _ => (pg_name (i := 3) sc.nd rfl (by first | exact Or.inl rfl | exact Or.inr rfl))) (fun _ _ _ _ _ => pts_nil') (fun _ _ _ _ _ => (pe_P C_is_below pass0 hr (by decide) hgd rfl (pa_cons' (pv' 3) (pa_cons' (pe_gD rfl c_CELL) pa_nil')) (aCons_len (aCons_len aNil_len)) rfl))) pa_nil')))) (pss_one' ps_stop') pss_nil')))) (pss_one' (ps_ret' (pe_tuple' rfl b_tuple (pa_cons' (pe_lc' (own := [("row", 2)]) rfl sc.nd (pi_seq' (pv' 0)) (blkOk_by (N := N_check_rows) (sc := defScope s_check_rows) (own := [("row", 2)]) (by decide +kernel)) (nmTg (by decide)) (fun _ _ _ _ _ => (pg_name (i := 2) sc.nd rfl (by first | exact Or.inl rfl | exact Or.inr rfl))) (fun _ _ _ _ _ => pts_nil') (fun _ _ _ _ _ => (pe_tuple' rfl b_tuple (pa_cons' (pv' 2) pa_nil')))) pa_nil'))))))))
abbrev s_product : Stmt := top 16
abbrev N_product : List Str := ["one", "other", "here", "there"]
theorem sc_product : FnScope N_product ["one", "other"] (defScope s_product) := ⟨rfl, rfl, rfl, by decide +kernel, rfl, by decide +kernel, by decide +kernel⟩
theorem ok_product (F : FnP K "product" s_product f fd) (gm : mg "product" = some (.ref f)) (b_sum : mg "sum" = none) (b_zip : mg "zip" = none) (c_CELL : GlD K mg "CELL" d_CELL) : CalD P w K mg base T "product" s_product 1 ["one", "other"] f_product :=
  CalD.mk' F gm (fun _ _ _ _ _ _ us hl => match us, hl with | [_, _], _ => rfl) (fnG_of F sc_product rfl fun cdv A outer s H E hr hgd tk =>
    have sc := sc_product
    (pss_one' (ps_ret' (pe_mod' (pe_sum' rfl rfl b_sum (pa_cons' (pe_lc' (own := [("here", 2), ("there", 3)]) rfl sc.nd (pi_zip' rfl b_zip (pa_cons' (pv' 0) (pa_cons' (pv' 1) pa_nil'))) (blkOk_by (N := N_product) (sc := defScope s_product) (own := [("here", 2), ("there", 3)]) (by decide +kernel)) (nmTg_seq (nmTgs_consG (nmTg (by decide)) (nmTgs_consG (nmTg (by decide)) nmTgs_nil))) (fun _ _ _ _ _ => (PGor (pg_tup rfl (pgs_cons (pg_name (i := 2) sc.nd rfl (by first | exact Or.inl rfl | exact Or.inr rfl)) (pgs_cons (pg_name (i := 3) sc.nd rfl (by first | exact Or.inl rfl | exact Or.inr rfl)) pgs_nil))) (pg_unl rfl (pgs_cons (pg_name (i := 2) sc.nd rfl (by first | exact Or.inl rfl | exact Or.inr rfl)) (pgs_cons (pg_name (i := 3) sc.nd rfl (by first | exact Or.inl rfl | exact Or.inr rfl)) pgs_nil))))) (fun _ _ _ _ _ => pts_nil') (fun _ _ _ _ _ => (pe_mul' (pv' 2) (pv' 3)))) pa_nil')) (pe_gD rfl c_CELL)))))
abbrev s_mixed : Stmt := top 17
abbrev N_mixed : List Str := ["row", "cell", "other", "here", "there"]
theorem sc_mixed : FnScope N_mixed ["row", "cell", "other"] (defScope s_mixed) := ⟨rfl, rfl, rfl, by decide +kernel, rfl, by decide +kernel, by decide +kernel⟩
theorem ok_mixed (F : FnP K "mixed" s_mixed f fd) (gm : mg "mixed" = some (.ref f)) (b_tuple : mg "tuple" = none) (b_zip : mg "zip" = none) (c_CELL : GlD K mg "CELL" d_CELL) : CalD P w K mg base T "mixed" s_mixed 1 ["row", "cell", "other"] f_mixed :=
  CalD.mk' F gm (fun _ _ _ _ _ _ us hl => match us, hl with | [_, _, _], _ => rfl) (fnG_of F sc_mixed rfl fun cdv A outer s H E hr hgd tk =>
    have sc := sc_mixed
    (pss_one' (ps_ret' (pe_tuple' rfl b_tuple (pa_cons' (pe_lc' (own := [("here", 3), ("there", 4)]) rfl sc.nd (pi_zip' rfl b_zip (pa_cons' (pv' 0) (pa_cons' (pv' 2) pa_nil'))) (blkOk_by (N := N_mixed) (sc := defScope s_mixed) (own := [("here", 3), ("there", 4)]) (by decide +kernel)) (nmTg_seq (nmTgs_consG (nmTg (by decide)) (nmTgs_consG (nmTg (by decide)) nmTgs_nil))) (fun _ _ _ _ _ => (PGor (pg_tup rfl (pgs_cons (pg_name (i := 3) sc.nd rfl (by first | exact Or.inl rfl | exact Or.inr rfl)) (pgs_cons (pg_name (i := 4) sc.nd rfl (by first | exact Or.inl rfl | exact Or.inr rfl)) pgs_nil))) (pg_unl rfl (pgs_cons (pg_name (i := 3) sc.nd rfl (by first | exact Or.inl rfl | exact Or.inr rfl)) (pgs_cons (pg_name (i := 4) sc.nd rfl (by first | exact Or.inl rfl | exact Or.inr rfl)) pgs_nil))))) (fun _ _ _ _ _ => pts_nil') (fun _ _ _ _ _ => (pe_mod' (pe_add' (pv' 3) (pe_mul' (pv' 1) (pv' 4))) (pe_gD rfl c_CELL)))) pa_nil')))))
abbrev s_sum_of_rows : Stmt := top 18
abbrev N_sum_of_rows : List Str := ["rows", "multiples", "found", "row", "cell"]
theorem sc_sum_of_rows : FnScope N_sum_of_rows ["rows", "multiples"] (defScope s_sum_of_rows) := ⟨rfl, rfl, rfl, by decide +kernel, rfl, by decide +kernel, by decide +kernel⟩
theorem ok_sum_of_rows (F : FnP K "sum_of_rows" s_sum_of_rows f fd) (gm : mg "sum_of_rows" = some (.ref f)) (b_len : mg "len" = none) (b_zip : mg "zip" = none) (C_mixed : CalD P w K mg base T "mixed" s_mixed 1 ["row", "cell", "other"] f_mixed) : CalD P w K mg base T "sum_of_rows" s_sum_of_rows 2 ["rows", "multiples"] f_sum_of_rows :=
  CalD.mk' F gm (fun _ _ _ _ _ _ us hl => match us, hl with | [_, _], _ => rfl) (fnG_of F sc_sum_of_rows rfl fun cdv A outer s H E hr hgd tk =>
    have sc := sc_sum_of_rows
    (pss_cons' (ps_set' (i := 2) sc.nd rfl (by first | exact Or.inl rfl | exact Or.inr rfl) (pe_rep' (pe_tup' (pa_cons' (pe_C' pe_int fun _ => .int _) pa_nil')) (pe_len' rfl b_len (pa_cons' (pe_ix' (fun _ _ => rfl) (pv' 0) (pe_C' pe_int fun _ => .int _)) pa_nil')))) (pss_cons' (ps_for' (passes_of rfl) rfl (pi_zip' rfl b_zip (pa_cons' (pv' 0) (pa_cons' (pv' 1) pa_nil'))) (pg_seq' (n := 2) rfl (pgs_cons' (pg_name' (i := 3) sc.nd rfl (by first | exact Or.inl rfl | exact Or.inr rfl)) (pgs_cons' (pg_name' (i := 4) sc.nd rfl (by first | exact Or.inl rfl | exact Or.inr rfl)) pgs_nil'))) (pss_one' (ps_set' (i := 2) sc.nd rfl (by first | exact Or.inl rfl | exact Or.inr rfl) (pe_P C_mixed (passT tk) hr (by decide) hgd rfl (pa_cons' (pv' 2) (pa_cons' (pv' 4) (pa_cons' (pv' 3) pa_nil'))) (aCons_len (aCons_len (aCons_len aNil_len))) rfl)))) (pss_one' (ps_ret' (pv' 2))))))
abbrev s_first_column : Stmt := top 19
abbrev N_first_column : List Str := ["row", "column", "cell"]
theorem sc_first_column : FnScope N_first_column ["row"] (defScope s_first_column) := ⟨rfl, rfl, rfl, by decide +kernel, rfl, by decide +kernel, by decide +kernel⟩
theorem ok_first_column (F : FnP K "first_column" s_first_column f fd) (gm : mg "first_column" = some (.ref f)) (b_enumerate : mg "enumerate" = none) : CalD P w K mg base T "first_column" s_first_column 1 ["row"] f_first_column :=
  CalD.mk' F gm (fun _ _ _ _ _ _ us hl => match us, hl with | [_], _ => rfl) (fnG_of F sc_first_column rfl fun cdv A outer s H E hr hgd tk =>
    have sc := sc_first_column
    (pss_cons' (ps_for' (passes_of rfl) rfl (pi_enu' rfl b_enumerate (pa_cons' (pv' 0) pa_nil')) (pg_seq' (n := 2) rfl (pgs_cons' (pg_name' (i := 1) sc.nd rfl (by first | exact Or.inl rfl | exact Or.inr rfl)) (pgs_cons' (pg_name' (i := 2) sc.nd rfl (by first | exact Or.inl rfl | exact Or.inr rfl)) pgs_nil'))) (pss_one' (ps_if' (pt_ne' (u64 hr) (pv' 2) (pe_C' pe_int fun _ => .int _)) (pss_one' (ps_ret' (pv' 1))) pss_nil'))) (pss_one' (ps_ret' (pe_C' pe_non fun _ => .non)))))
abbrev s_unit : Stmt := top 20
abbrev N_unit : List Str := ["many", "at", "column"]
theorem sc_unit : FnScope N_unit ["many", "at"] (defScope s_unit) := ⟨rfl, rfl, rfl, by decide +kernel, rfl, by decide +kernel, by decide +kernel⟩
theorem ok_unit (F : FnP K "unit" s_unit f fd) (gm : mg "unit" = some (.ref f)) (b_tuple : mg "tuple" = none) (b_range : mg "range" = none) (b_int : mg "int" = none) : CalD P w K mg base T "unit" s_unit 1 ["many", "at"] f_unit :=
  CalD.mk' F gm (fun _ _ _ _ _ _ us hl => match us, hl with | [_, _], _ => rfl) (fnG_of F sc_unit rfl fun cdv A outer s H E hr hgd tk =>
    have sc := sc_unit
    (pss_one' (ps_ret' (pe_tuple' rfl b_tuple (pa_cons' (pe_lc' (own := [("column", 2)]) rfl sc.nd (pi_range1' rfl b_range (pa_cons' (pv' 0) pa_nil')) (blkOk_by (N := N_unit) (sc := defScope s_unit) (own := [("column", 2)]) (by decide +kernel)) (nmTg (by decide)) (fun _ _ _ _ _ => (pg_name (i := 2) sc.nd rfl (by first | exact Or.inl rfl | exact Or.inr rfl))) (fun _ _ _ _ _ => pts_nil') (fun _ _ _ _ _ => (pe_int' rfl b_int (pa_cons' (pe_eq' (u64 hr) (pv' 2) (pv' 1)) pa_nil')))) pa_nil')))))
abbrev s_cleared : Stmt := top 22
abbrev N_cleared : List Str := ["one", "column", "row", "by", "cell"]
theorem sc_cleared : FnScope N_cleared ["one", "column", "row", "by"] (defScope s_cleared) := ⟨rfl, rfl, rfl, by decide +kernel, rfl, by decide +kernel, by decide +kernel⟩
theorem ok_cleared (F : FnP K "cleared" s_cleared f fd) (gm : mg "cleared" = some (.ref f)) (c_CELL : GlD K mg "CELL" d_CELL) (C_mixed : CalD P w K mg base T "mixed" s_mixed 1 ["row", "cell", "other"] f_mixed) : CalD P w K mg base T "cleared" s_cleared 2 ["one", "column", "row", "by"] f_cleared :=
  CalD.mk' F gm (fun _ _ _ _ _ _ us hl => match us, hl with | [_, _, _, _], _ => rfl) (fnG_of F sc_cleared rfl fun cdv A outer s H E hr hgd tk =>
    have sc := sc_cleared
    (pss_cons' (ps_set' (i := 4) sc.nd rfl (by first | exact Or.inl rfl | exact Or.inr rfl) (pe_sub' (pe_gD rfl c_CELL) (pe_ix' (fun _ _ => rfl) (pe_ix' (fun _ _ => rfl) (pv' 0) (pe_C' pe_int fun _ => .int _)) (pv' 1)))) (pss_one' (ps_ret' (pe_tup' (pa_cons' (pe_P C_mixed (passT tk) hr (by decide) hgd rfl (pa_cons' (pe_ix' (fun _ _ => rfl) (pv' 0) (pe_C' pe_int fun _ => .int _)) (pa_cons' (pv' 4) (pa_cons' (pv' 2) pa_nil'))) (aCons_len (aCons_len (aCons_len aNil_len))) rfl) (pa_cons' (pe_P C_mixed (passT tk) hr (by decide) hgd rfl (pa_cons' (pe_ix' (fun _ _ => rfl) (pv' 0) (pe_C' pe_int fun _ => .int _)) (pa_cons' (pv' 4) (pa_cons' (pv' 3) pa_nil'))) (aCons_len (aCons_len (aCons_len aNil_len))) rfl) pa_nil')))))))
abbrev s_steps_and_rest : Stmt := top 21
abbrev N_steps_and_rest : List Str := ["rows", "left", "steps", "column", "found", "row", "by", "turn", "at", "cell", "one"]
theorem sc_steps_and_rest : FnScope N_steps_and_rest ["rows"] (defScope s_steps_and_rest) := ⟨rfl, rfl, rfl, by decide +kernel, rfl, by decide +kernel, by decide +kernel⟩
theorem ok_steps_and_rest (F : FnP K "steps_and_rest" s_steps_and_rest f fd) (gm : mg "steps_and_rest" = some (.ref f)) (b_enumerate : mg "enumerate" = none) (b_len : mg "len" = none) (b_range : mg "range" = none) (b_tuple : mg "tuple" = none) (C_unit : CalD P w K mg base T "unit" s_unit 1 ["many", "at"] f_unit) (C_inverse : CalD P w K mg base T "inverse" s_inverse 4 ["cell"] f_inverse) (C_times : CalD P w K mg base T "times" s_times 1 ["one", "other"] f_times) (C_cleared : CalD P w K mg base T "cleared" s_cleared 2 ["one", "column", "row", "by"] f_cleared) : CalD P w K mg base T "steps_and_rest" s_steps_and_rest 5 ["rows"] f_steps_and_rest :=
  CalD.mk' F gm (fun _ _ _ _ _ _ us hl => match us, hl with | [_], _ => rfl) (fnG_of F sc_steps_and_rest rfl fun cdv A outer s H E hr hgd tk =>
    have sc := sc_steps_and_rest
    (pss_cons' (ps_setLcN (i := 1) (own := [("at", 8), ("row", 5)]) rfl sc.nd rfl rfl (sw_true rfl rfl rfl (by decide +kernel)) (pi_nOf (pi_enu' rfl b_enumerate (pa_cons' (pv' 0) pa_nil'))) (blkOk_by (N := N_steps_and_rest) (sc := defScope s_steps_and_rest) (own := [("at", 8), ("row", 5)]) (by decide +kernel)) (nmTg_seq (nmTgs_consG (nmTg (by decide)) (nmTgs_consG (nmTg (by decide)) nmTgs_nil))) (fun _ _ _ _ _ => (PGor (pg_tup rfl (pgs_cons (pg_name (i := 8) sc.nd rfl (by first | exact Or.inl rfl | exact Or.inr rfl)) (pgs_cons (pg_name (i := 5) sc.nd rfl (by first | exact Or.inl rfl | exact Or.inr rfl)) pgs_nil))) (pg_unl rfl (pgs_cons (pg_name (i := 8) sc.nd rfl (by first | exact Or.inl rfl | exact Or.inr rfl)) (pgs_cons (pg_name (i := 5) sc.nd rfl (by first | exact Or.inl rfl | exact Or.inr rfl)) pgs_nil))))) (fun _ _ _ _ _ => pts_nil') (fun _ _ _ _ _ => (pe_tup' (pa_cons' (pv' 5) (pa_cons' (pe_P C_unit pass0 hr (by decide) hgd rfl (pa_cons' (pe_len' rfl b_len (pa_cons' (pv' 0) pa_nil')) (pa_cons' (pv' 8) pa_nil')) (aCons_len (aCons_len aNil_len)) rfl) pa_nil'))))) (pss_cons' (ps_set' (i := 2) sc.nd rfl (by first | exact Or.inl rfl | exact Or.inr rfl) (pe_lst' pa_nil')) (pss_cons' (ps_for' (passes_of rfl) rfl (pi_range1' rfl b_range (pa_cons' (pe_len' rfl b_len (pa_cons' (pe_ix' (fun _ _ => rfl) (pv' 0) (pe_C' pe_int fun _ => .int _)) pa_nil')) pa_nil')) (pg_name' (i := 3) sc.nd rfl (by first | exact Or.inl rfl | exact Or.inr rfl)) (pss_cons' (ps_setLcN (i := 4) (own := [("at", 8), ("row", 5), ("by", 6)]) rfl sc.nd rfl rfl (sw_true rfl rfl rfl (by decide +kernel)) (pi_nEnu rfl b_enumerate (pa_cons' (pv' 1) pa_nil')) (blkOk_by (N := N_steps_and_rest) (sc := defScope s_steps_and_rest) (own := [("at", 8), ("row", 5), ("by", 6)]) (by decide +kernel)) (nmTg_seq (nmTgs_consG (nmTg (by decide)) (nmTgs_consG (nmTg_seq (nmTgs_consG (nmTg (by decide)) (nmTgs_consG (nmTg (by decide)) nmTgs_nil))) nmTgs_nil))) (fun _ _ _ _ _ => (PGor (pg_tup rfl (pgs_cons (pg_name (i := 8) sc.nd rfl (by first | exact Or.inl rfl | exact Or.inr rfl)) (pgs_cons (PGor (pg_tup rfl (pgs_cons (pg_name (i := 5) sc.nd rfl (by first | exact Or.inl rfl | exact Or.inr rfl)) (pgs_cons (pg_name (i := 6) sc.nd rfl (by first | exact Or.inl rfl | exact Or.inr rfl)) pgs_nil))) (pg_unl rfl (pgs_cons (pg_name (i := 5) sc.nd rfl (by first | exact Or.inl rfl | exact Or.inr rfl)) (pgs_cons (pg_name (i := 6) sc.nd rfl (by first | exact Or.inl rfl | exact Or.inr rfl)) pgs_nil)))) pgs_nil))) (pg_unl rfl (pgs_cons (pg_name (i := 8) sc.nd rfl (by first | exact Or.inl rfl | exact Or.inr rfl)) (pgs_cons (PGor (pg_tup rfl (pgs_cons (pg_name (i := 5) sc.nd rfl (by first | exact Or.inl rfl | exact Or.inr rfl)) (pgs_cons (pg_name (i := 6) sc.nd rfl (by first | exact Or.inl rfl | exact Or.inr rfl)) pgs_nil))) (pg_unl rfl (pgs_cons (pg_name (i := 5) sc.nd rfl (by first | exact Or.inl rfl | exact Or.inr rfl)) (pgs_cons (pg_name (i := 6) sc.nd rfl (by first | exact Or.inl rfl | exact Or.inr rfl)) pgs_nil)))) pgs_nil))))) (fun _ _ _ _ _ => (pts_one' (pt_ne' (u64 hr) (pe_ix' (fun _ _ => rfl) (pv' 5) (pv' 3)) (pe_C' pe_int fun _ => .int _)))) (fun _ _ _ _ _ => (pv' 8))) (pss_cons' (ps_if' (pt_eq' (u64 hr) (pe_len' rfl b_len (pa_cons' (pv' 4) pa_nil')) (pe_C' pe_int fun _ => .int _)) (pss_one' ps_cont') pss_nil') (pss_cons' (ps_asg' (pe_pop1' (pv' 1) (pa_cons' (pe_ix' (fun _ _ => rfl) (pv' 4) (pe_C' pe_int fun _ => .int _)) pa_nil')) (pg_seq' (n := 2) rfl (pgs_cons' (pg_name' (i := 5) sc.nd rfl (by first | exact Or.inl rfl | exact Or.inr rfl)) (pgs_cons' (pg_name' (i := 6) sc.nd rfl (by first | exact Or.inl rfl | exact Or.inr rfl)) pgs_nil')))) (pss_cons' (ps_set' (i := 7) sc.nd rfl (by first | exact Or.inl rfl | exact Or.inr rfl) (pe_P C_inverse (passT tk) hr (by decide) hgd rfl (pa_cons' (pe_ix' (fun _ _ => rfl) (pv' 5) (pv' 3)) pa_nil') (aCons_len aNil_len) rfl)) (pss_cons' (ps_asg' (pe_tup' (pa_cons' (pe_tuple' rfl b_tuple (pa_cons' (pe_lc' (own := [("cell", 9)]) rfl sc.nd (pi_seq' (pv' 5)) (blkOk_by (N := N_steps_and_rest) (sc := defScope s_steps_and_rest) (own := [("cell", 9)]) (by decide +kernel)) (nmTg (by decide)) (fun _ _ _ _ _ => (pg_name (i := 9) sc.nd rfl (by first | exact Or.inl rfl | exact Or.inr rfl))) (fun _ _ _ _ _ => pts_nil') (fun _ _ _ _ _ => (pe_P C_times pass0 hr (by decide) hgd rfl (pa_cons' (pv' 9) (pa_cons' (pv' 7) pa_nil')) (aCons_len (aCons_len aNil_len)) rfl))) pa_nil')) (pa_cons' (pe_tuple' rfl b_tuple (pa_cons' (pe_lc' (own := [("cell", 9)]) rfl sc.nd (pi_seq' (pv' 6)) (blkOk_by (N := N_steps_and_rest) (sc := defScope s_steps_and_rest) (own := [("cell", 9)]) (by decide +kernel)) (nmTg (by decide)) (fun _ _ _ _ _ => (pg_name (i := 9) sc.nd rfl (by first | exact Or.inl rfl | exact Or.inr rfl))) (fun _ _ _ _ _ => pts_nil') (fun _ _ _ _ _ => (pe_P C_times pass0 hr (by decide) hgd rfl (pa_cons' (pv' 9) (pa_cons' (pv' 7) pa_nil')) (aCons_len (aCons_len aNil_len)) rfl))) pa_nil')) pa_nil'))) (pg_seq' (n := 2) rfl (pgs_cons' (pg_name' (i := 5) sc.nd rfl (by first | exact Or.inl rfl | exact Or.inr rfl)) (pgs_cons' (pg_name' (i := 6) sc.nd rfl (by first | exact Or.inl rfl | exact Or.inr rfl)) pgs_nil')))) (pss_cons' (ps_setLcN (i := 1) (own := [("one", 10)]) rfl sc.nd rfl rfl (sw_true rfl rfl rfl (by decide +kernel)) (pi_nLoc (pv' 1)) (blkOk_by (N := N_steps_and_rest) (sc := defScope s_steps_and_rest) (own := [("one", 10)]) (by decide +kernel)) (nmTg (by decide)) (fun _ _ _ _ _ => (pg_name (i := 10) sc.nd rfl (by first | exact Or.inl rfl | exact Or.inr rfl))) (fun _ _ _ _ _ => pts_nil') (fun _ _ _ _ _ => (pe_P C_cleared pass0 hr (by decide) hgd rfl (pa_cons' (pv' 10) (pa_cons' (pv' 3) (pa_cons' (pv' 5) (pa_cons' (pv' 6) pa_nil')))) (aCons_len (aCons_len (aCons_len (aCons_len aNil_len)))) rfl))) (pss_one' (ps_set' (i := 2) sc.nd rfl (by first | exact Or.inl rfl | exact Or.inr rfl) (pe_add' (pe_lc' (own := [("one", 10)]) rfl sc.nd (pi_seq' (pv' 2)) (blkOk_by (N := N_steps_and_rest) (sc := defScope s_steps_and_rest) (own := [("one", 10)]) (by decide +kernel)) (nmTg (by decide)) (fun _ _ _ _ _ => (pg_name (i := 10) sc.nd rfl (by first | exact Or.inl rfl | exact Or.inr rfl))) (fun _ _ _ _ _ => pts_nil') (fun _ _ _ _ _ => (pe_P C_cleared pass0 hr (by decide) hgd rfl (pa_cons' (pv' 10) (pa_cons' (pv' 3) (pa_cons' (pv' 5) (pa_cons' (pv' 6) pa_nil')))) (aCons_len (aCons_len (aCons_len (aCons_len aNil_len)))) rfl))) (pe_lst' (pa_cons' (pe_tup' (pa_cons' (pv' 5) (pa_cons' (pv' 6) pa_nil'))) pa_nil')))))))))))) (pss_frz 1 (pss_one' (ps_ret' (pe_tup' (pa_cons' (pv' 2) (pa_cons' (pv' 1) pa_nil'))))))))))
abbrev s_free_row : Stmt := top 24
abbrev N_free_row : List Str := ["free", "firsts", "steps", "width", "found", "column", "row", "by"]
theorem sc_free_row : FnScope N_free_row ["free", "firsts", "steps", "width"] (defScope s_free_row) := ⟨rfl, rfl, rfl, by decide +kernel, rfl, by decide +kernel, by decide +kernel⟩
theorem ok_free_row (F : FnP K "free_row" s_free_row f fd) (gm : mg "free_row" = some (.ref f)) (b_list : mg "list" = none) (b_zip : mg "zip" = none) (b_tuple : mg "tuple" = none) (c_CELL : GlD K mg "CELL" d_CELL) (C_unit : CalD P w K mg base T "unit" s_unit 1 ["many", "at"] f_unit) : CalD P w K mg base T "free_row" s_free_row 2 ["free", "firsts", "steps", "width"] f_free_row :=
  CalD.mk' F gm (fun _ _ _ _ _ _ us hl => match us, hl with | [_, _, _, _], _ => rfl) (fnG_of F sc_free_row rfl fun cdv A outer s H E hr hgd tk =>
    have sc := sc_free_row
    (pss_cons' (ps_set' (i := 4) sc.nd rfl (by first | exact Or.inl rfl | exact Or.inr rfl) (pe_newList rfl b_list (pa_cons' (pe_P C_unit (passT tk) hr (by decide) hgd rfl (pa_cons' (pv' 3) (pa_cons' (pv' 0) pa_nil')) (aCons_len (aCons_len aNil_len)) rfl) pa_nil'))) (pss_cons' (ps_for' (passes_of rfl) rfl (pi_zip' rfl b_zip (pa_cons' (pv' 1) (pa_cons' (pv' 2) pa_nil'))) (pg_seq' (n := 2) rfl (pgs_cons' (pg_name' (i := 5) sc.nd rfl (by first | exact Or.inl rfl | exact Or.inr rfl)) (pgs_cons' (pg_seq' (n := 2) rfl (pgs_cons' (pg_name' (i := 6) sc.nd rfl (by first | exact Or.inl rfl | exact Or.inr rfl)) (pgs_cons' (pg_name' (i := 7) sc.nd rfl (by first | exact Or.inl rfl | exact Or.inr rfl)) pgs_nil'))) pgs_nil'))) (pss_one' (ps_asg' (pe_mod' (pe_sub' (pe_gD rfl c_CELL) (pe_ix' (fun _ _ => rfl) (pv' 6) (pv' 0))) (pe_gD rfl c_CELL)) (pg_sub' (fun _ _ ho hi => pg_sub ho hi set_list) (pv' 4) (pv' 5))))) (pss_one' (ps_ret' (pe_tuple' rfl b_tuple (pa_cons' (pv' 4) pa_nil')))))))
abbrev s_solve : Stmt := top 23
abbrev N_solve : List Str := ["rows", "goals", "told", "wanted", "steps", "rest", "width", "firsts", "one", "column", "row", "by", "frees"]
theorem sc_solve : FnScope N_solve ["rows", "goals"] (defScope s_solve) := ⟨rfl, rfl, rfl, by decide +kernel, rfl, by decide +kernel, by decide +kernel⟩
theorem ok_solve (F : FnP K "solve" s_solve f fd) (gm : mg "solve" = some (.ref f)) (b_len : mg "len" = none) (b_any : mg "any" = none) (b_zip : mg "zip" = none) (b_range : mg "range" = none) (b_tuple : mg "tuple" = none) (C_check_rows : CalD P w K mg base T "check_rows" s_check_rows 4 ["value"] f_check_rows) (C_check_row : CalD P w K mg base T "check_row" s_check_row 4 ["value", "width"] f_check_row) (C_steps_and_rest : CalD P w K mg base T "steps_and_rest" s_steps_and_rest 5 ["rows"] f_steps_and_rest) (C_product : CalD P w K mg base T "product" s_product 1 ["one", "other"] f_product) (C_first_column : CalD P w K mg base T "first_column" s_first_column 1 ["row"] f_first_column) (C_free_row : CalD P w K mg base T "free_row" s_free_row 2 ["free", "firsts", "steps", "width"] f_free_row) : CalD P w K mg base T "solve" s_solve 6 ["rows", "goals"] f_solve :=
  CalD.mk' F gm (fun _ _ _ _ _ _ us hl => match us, hl with | [_, _], _ => rfl) (fnG_of F sc_solve rfl fun cdv A outer s H E hr hgd tk =>
    have sc := sc_solve
    (pss_cons' (ps_set' (i := 2) sc.nd rfl (by first | exact Or.inl rfl | exact Or.inr rfl) (pe_P C_check_rows (passT tk) hr (by decide) hgd rfl (pa_cons' (pv' 0) pa_nil') (aCons_len aNil_len) rfl)) (pss_cons' (ps_set' (i := 3) sc.nd rfl (by first | exact Or.inl rfl | exact Or.inr rfl) (pe_P C_check_row (passT tk) hr (by decide) hgd rfl (pa_cons' (pv' 1) (pa_cons' (pe_len' rfl b_len (pa_cons' (pv' 2) pa_nil')) pa_nil')) (aCons_len (aCons_len aNil_len)) rfl)) (pss_cons' (ps_asg' (pe_P C_steps_and_rest (passT tk) hr (by decide) hgd rfl (pa_cons' (pv' 2) pa_nil') (aCons_len aNil_len) rfl) (pg_seq' (n := 2) rfl (pgs_cons' (pg_name' (i := 4) sc.nd rfl (by first | exact Or.inl rfl | exact Or.inr rfl)) (pgs_cons' (pg_name' (i := 5) sc.nd rfl (by first | exact Or.inl rfl | exact Or.inr rfl)) pgs_nil')))) (pss_cons' (ps_if' (pt_tru' (pe_any' rfl rfl b_any (pa_cons' (pe_lc' (own := [("row", 10), ("by", 11)]) rfl sc.nd (pi_seq' (pv' 5)) (blkOk_by (N := N_solve) (sc := defScope s_solve) (own := [("row", 10), ("by", 11)]) (by decide +kernel)) (nmTg_seq (nmTgs_consG (nmTg (by decide)) (nmTgs_consG (nmTg (by decide)) nmTgs_nil))) (fun _ _ _ _ _ => (PGor (pg_tup rfl (pgs_cons (pg_name (i := 10) sc.nd rfl (by first | exact Or.inl rfl | exact Or.inr rfl)) (pgs_cons (pg_name (i := 11) sc.nd rfl (by first | exact Or.inl rfl | exact Or.inr rfl)) pgs_nil))) (pg_unl rfl (pgs_cons (pg_name (i := 10) sc.nd rfl (by first | exact Or.inl rfl | exact Or.inr rfl)) (pgs_cons (pg_name (i := 11) sc.nd rfl (by first | exact Or.inl rfl | exact Or.inr rfl)) pgs_nil))))) (fun _ _ _ _ _ => pts_nil') (fun _ _ _ _ _ => (pe_ne' (u64 hr) (pe_P C_product pass0 hr (by decide) hgd rfl (pa_cons' (pv' 11) (pa_cons' (pv' 3) pa_nil')) (aCons_len (aCons_len aNil_len)) rfl) (pe_C' pe_int fun _ => .int _)))) pa_nil'))) (pss_one' (ps_ret' (pe_C' pe_non fun _ => .non))) pss_nil') (pss_cons' (ps_set' (i := 6) sc.nd rfl (by first | exact Or.inl rfl | exact Or.inr rfl) (pe_len' rfl b_len (pa_cons' (pe_ix' (fun _ _ => rfl) (pv' 2) (pe_C' pe_int fun _ => .int _)) pa_nil'))) (pss_cons' (ps_set' (i := 7) sc.nd rfl (by first | exact Or.inl rfl | exact Or.inr rfl) (pe_lc' (own := [("row", 10), ("by", 11)]) rfl sc.nd (pi_seq' (pv' 4)) (blkOk_by (N := N_solve) (sc := defScope s_solve) (own := [("row", 10), ("by", 11)]) (by decide +kernel)) (nmTg_seq (nmTgs_consG (nmTg (by decide)) (nmTgs_consG (nmTg (by decide)) nmTgs_nil))) (fun _ _ _ _ _ => (PGor (pg_tup rfl (pgs_cons (pg_name (i := 10) sc.nd rfl (by first | exact Or.inl rfl | exact Or.inr rfl)) (pgs_cons (pg_name (i := 11) sc.nd rfl (by first | exact Or.inl rfl | exact Or.inr rfl)) pgs_nil))) (pg_unl rfl (pgs_cons (pg_name (i := 10) sc.nd rfl (by first | exact Or.inl rfl | exact Or.inr rfl)) (pgs_cons (pg_name (i := 11) sc.nd rfl (by first | exact Or.inl rfl | exact Or.inr rfl)) pgs_nil))))) (fun _ _ _ _ _ => pts_nil') (fun _ _ _ _ _ => (pe_P C_first_column pass0 hr (by decide) hgd rfl (pa_cons' (pv' 10) pa_nil') (aCons_len aNil_len) rfl)))) (pss_cons' (ps_set' (i := 8) sc.nd rfl (by first | exact Or.inl rfl | exact Or.inr rfl) (pe_newRep (pe_lst' (pa_cons' (pe_C' pe_int fun _ => .int _) pa_nil')) (pv' 6))) (pss_cons' (ps_for' (passes_of rfl) rfl (pi_zip' rfl b_zip (pa_cons' (pv' 7) (pa_cons' (pv' 4) pa_nil'))) (pg_seq' (n := 2) rfl (pgs_cons' (pg_name' (i := 9) sc.nd rfl (by first | exact Or.inl rfl | exact Or.inr rfl)) (pgs_cons' (pg_seq' (n := 2) rfl (pgs_cons' (pg_name' (i := 10) sc.nd rfl (by first | exact Or.inl rfl | exact Or.inr rfl)) (pgs_cons' (pg_name' (i := 11) sc.nd rfl (by first | exact Or.inl rfl | exact Or.inr rfl)) pgs_nil'))) pgs_nil'))) (pss_one' (ps_asg' (pe_P C_product (passT tk) hr (by decide) hgd rfl (pa_cons' (pv' 11) (pa_cons' (pv' 3) pa_nil')) (aCons_len (aCons_len aNil_len)) rfl) (pg_sub' (fun _ _ ho hi => pg_sub ho hi set_list) (pv' 8) (pv' 9))))) (pss_cons' (ps_setLc' (i := 12) (own := [("column", 9)]) rfl sc.nd rfl rfl (sw_true rfl rfl rfl (by decide +kernel)) (pi_range1' rfl b_range (pa_cons' (pv' 6) pa_nil')) (blkOk_by (N := N_solve) (sc := defScope s_solve) (own := [("column", 9)]) (by decide +kernel)) (nmTg (by decide)) (fun _ _ _ _ _ => (pg_name (i := 9) sc.nd rfl (by first | exact Or.inl rfl | exact Or.inr rfl))) (fun _ _ _ _ _ => (pts_one' (pt_nin' (u65 hr) (by with_unfolding_all rfl) (pv' 9) (pv' 7)))) (fun _ _ _ _ _ => (pv' 9))) (pss_one' (ps_ret' (pe_tup' (pa_cons' (pe_tuple' rfl b_tuple (pa_cons' (pv' 8) pa_nil')) (pa_cons' (pe_tuple' rfl b_tuple (pa_cons' (pe_lc' (own := [("column", 9)]) rfl sc.nd (pi_seq' (pv' 12)) (blkOk_by (N := N_solve) (sc := defScope s_solve) (own := [("column", 9)]) (by decide +kernel)) (nmTg (by decide)) (fun _ _ _ _ _ => (pg_name (i := 9) sc.nd rfl (by first | exact Or.inl rfl | exact Or.inr rfl))) (fun _ _ _ _ _ => pts_nil') (fun _ _ _ _ _ => (pe_P C_free_row pass0 hr (by decide) hgd rfl (pa_cons' (pv' 9) (pa_cons' (pv' 7) (pa_cons' (pv' 4) (pa_cons' (pv' 6) pa_nil')))) (aCons_len (aCons_len (aCons_len (aCons_len aNil_len)))) rfl))) pa_nil')) pa_nil')))))))))))))))
abbrev s_reasons : Stmt := top 25
abbrev N_reasons : List Str := ["rows", "goals", "told", "wanted", "row", "by", "cell", "turn", "one"]
theorem sc_reasons : FnScope N_reasons ["rows", "goals"] (defScope s_reasons) := ⟨rfl, rfl, rfl, by decide +kernel, rfl, by decide +kernel, by decide +kernel⟩
theorem ok_reasons (F : FnP K "reasons" s_reasons f fd) (gm : mg "reasons" = some (.ref f)) (b_len : mg "len" = none) (b_tuple : mg "tuple" = none) (C_check_rows : CalD P w K mg base T "check_rows" s_check_rows 4 ["value"] f_check_rows) (C_check_row : CalD P w K mg base T "check_row" s_check_row 4 ["value", "width"] f_check_row) (C_steps_and_rest : CalD P w K mg base T "steps_and_rest" s_steps_and_rest 5 ["rows"] f_steps_and_rest) (C_product : CalD P w K mg base T "product" s_product 1 ["one", "other"] f_product) (C_inverse : CalD P w K mg base T "inverse" s_inverse 4 ["cell"] f_inverse) (C_times : CalD P w K mg base T "times" s_times 1 ["one", "other"] f_times) : CalD P w K mg base T "reasons" s_reasons 6 ["rows", "goals"] f_reasons :=
  CalD.mk' F gm (fun _ _ _ _ _ _ us hl => match us, hl with | [_, _], _ => rfl) (fnG_of F sc_reasons rfl fun cdv A outer s H E hr hgd tk =>
    have sc := sc_reasons
    (pss_cons' (ps_set' (i := 2) sc.nd rfl (by first | exact Or.inl rfl | exact Or.inr rfl) (pe_P C_check_rows (passT tk) hr (by decide) hgd rfl (pa_cons' (pv' 0) pa_nil') (aCons_len aNil_len) rfl)) (pss_cons' (ps_set' (i := 3) sc.nd rfl (by first | exact Or.inl rfl | exact Or.inr rfl) (pe_P C_check_row (passT tk) hr (by decide) hgd rfl (pa_cons' (pv' 1) (pa_cons' (pe_len' rfl b_len (pa_cons' (pv' 2) pa_nil')) pa_nil')) (aCons_len (aCons_len aNil_len)) rfl)) (pss_cons' (ps_for' (passes_of rfl) rfl (pi_seq' (pe_ix' (fun _ _ => rfl) (pe_P C_steps_and_rest (passT tk) hr (by decide) hgd rfl (pa_cons' (pv' 2) pa_nil') (aCons_len aNil_len) rfl) (pe_C' pe_int fun _ => .int _))) (pg_seq' (n := 2) rfl (pgs_cons' (pg_name' (i := 4) sc.nd rfl (by first | exact Or.inl rfl | exact Or.inr rfl)) (pgs_cons' (pg_name' (i := 5) sc.nd rfl (by first | exact Or.inl rfl | exact Or.inr rfl)) pgs_nil'))) (pss_cons' (ps_set' (i := 6) sc.nd rfl (by first | exact Or.inl rfl | exact Or.inr rfl) (pe_P C_product (passT tk) hr (by decide) hgd rfl (pa_cons' (pv' 5) (pa_cons' (pv' 3) pa_nil')) (aCons_len (aCons_len aNil_len)) rfl)) (pss_one' (ps_if' (pt_ne' (u64 hr) (pv' 6) (pe_C' pe_int fun _ => .int _)) (pss_cons' (ps_set' (i := 7) sc.nd rfl (by first | exact Or.inl rfl | exact Or.inr rfl) (pe_P C_inverse (passT tk) hr (by decide) hgd rfl (pa_cons' (pv' 6) pa_nil') (aCons_len aNil_len) rfl)) (pss_one' (ps_ret' (pe_tuple' rfl b_tuple (pa_cons' (pe_lc' (own := [("one", 8)]) rfl sc.nd (pi_seq' (pv' 5)) (blkOk_by (N := N_reasons) (sc := defScope s_reasons) (own := [("one", 8)]) (by decide +kernel)) (nmTg (by decide)) (fun _ _ _ _ _ => (pg_name (i := 8) sc.nd rfl (by first | exact Or.inl rfl | exact Or.inr rfl))) (fun _ _ _ _ _ => pts_nil') (fun _ _ _ _ _ => (pe_P C_times pass0 hr (by decide) hgd rfl (pa_cons' (pv' 8) (pa_cons' (pv' 7) pa_nil')) (aCons_len (aCons_len aNil_len)) rfl))) pa_nil'))))) pss_nil')))) (pss_one' (ps_ret' (pe_C' pe_non fun _ => .non)))))))
abbrev s_is_row_of : Stmt := top 26
abbrev N_is_row_of : List Str := ["value", "width", "cell"]
theorem sc_is_row_of : FnScope N_is_row_of ["value", "width"] (defScope s_is_row_of) := ⟨rfl, rfl, rfl, by decide +kernel, rfl, by decide +kernel, by decide +kernel⟩
theorem ok_is_row_of (F : FnP K "is_row_of" s_is_row_of f fd) (gm : mg "is_row_of" = some (.ref f)) (b_len : mg "len" = none) (b_all : mg "all" = none) (c_CELL : GlD K mg "CELL" d_CELL) (C_is_sequence : CalD P w K mg base T "is_sequence" s_is_sequence 1 ["value"] f_is_sequence) (C_is_below : CalD P w K mg base T "is_below" s_is_below 3 ["value", "most"] f_is_below) : CalD P w K mg base T "is_row_of" s_is_row_of 4 ["value", "width"] f_is_row_of :=
  CalD.mk' F gm (fun _ _ _ _ _ _ us hl => match us, hl with | [_, _], _ => rfl) (fnG_of F sc_is_row_of rfl fun cdv A outer s H E hr hgd tk =>
    have sc := sc_is_row_of
    (pss_one' (ps_ret' (pe_and' (pe_P C_is_sequence (passT tk) hr (by decide) hgd rfl (pa_cons' (pv' 0) pa_nil') (aCons_len aNil_len) rfl) (pe_and' (pe_eq' (u64 hr) (pe_len' rfl b_len (pa_cons' (pv' 0) pa_nil')) (pv' 1)) (pe_and1' (pe_all' rfl rfl b_all (pa_cons' (pe_lc' (own := [("cell", 2)]) rfl sc.nd (pi_seq' (pv' 0)) (blkOk_by (N := N_is_row_of) (sc := defScope s_is_row_of) (own := [("cell", 2)]) (by decide +kernel)) (nmTg (by decide)) (fun _ _ _ _ _ => (pg_name (i := 2) sc.nd rfl (by first | exact Or.inl rfl | exact Or.inr rfl))) (fun _ _ _ _ _ => pts_nil') (fun _ _ _ _ _ => (pe_P C_is_below pass0 hr (by decide) hgd rfl (pa_cons' (pv' 2) (pa_cons' (pe_gD rfl c_CELL) pa_nil')) (aCons_len (aCons_len aNil_len)) rfl))) pa_nil'))))))))
abbrev s_solution_holds : Stmt := top 27
abbrev N_solution_holds : List Str := ["rows", "goals", "value", "told", "wanted", "row", "cell"]
theorem sc_solution_holds : FnScope N_solution_holds ["rows", "goals", "value"] (defScope s_solution_holds) := ⟨rfl, rfl, rfl, by decide +kernel, rfl, by decide +kernel, by decide +kernel⟩
theorem ok_solution_holds (F : FnP K "solution_holds" s_solution_holds f fd) (gm : mg "solution_holds" = some (.ref f)) (b_len : mg "len" = none) (b_all : mg "all" = none) (b_zip : mg "zip" = none) (C_check_rows : CalD P w K mg base T "check_rows" s_check_rows 4 ["value"] f_check_rows) (C_check_row : CalD P w K mg base T "check_row" s_check_row 4 ["value", "width"] f_check_row) (C_is_row_of : CalD P w K mg base T "is_row_of" s_is_row_of 4 ["value", "width"] f_is_row_of) (C_product : CalD P w K mg base T "product" s_product 1 ["one", "other"] f_product) : CalD P w K mg base T "solution_holds" s_solution_holds 5 ["rows", "goals", "value"] f_solution_holds :=
  CalD.mk' F gm (fun _ _ _ _ _ _ us hl => match us, hl with | [_, _, _], _ => rfl) (fnG_of F sc_solution_holds rfl fun cdv A outer s H E hr hgd tk =>
    have sc := sc_solution_holds
    (pss_cons' (ps_set' (i := 3) sc.nd rfl (by first | exact Or.inl rfl | exact Or.inr rfl) (pe_P C_check_rows (passT tk) hr (by decide) hgd rfl (pa_cons' (pv' 0) pa_nil') (aCons_len aNil_len) rfl)) (pss_cons' (ps_set' (i := 4) sc.nd rfl (by first | exact Or.inl rfl | exact Or.inr rfl) (pe_P C_check_row (passT tk) hr (by decide) hgd rfl (pa_cons' (pv' 1) (pa_cons' (pe_len' rfl b_len (pa_cons' (pv' 3) pa_nil')) pa_nil')) (aCons_len (aCons_len aNil_len)) rfl)) (pss_cons' (ps_if' (pt_not' (pt_tru' (pe_P C_is_row_of (passT tk) hr (by decide) hgd rfl (pa_cons' (pv' 2) (pa_cons' (pe_len' rfl b_len (pa_cons' (pe_ix' (fun _ _ => rfl) (pv' 3) (pe_C' pe_int fun _ => .int _)) pa_nil')) pa_nil')) (aCons_len (aCons_len aNil_len)) rfl))) (pss_one' (ps_ret' (pe_C' pe_bl fun _ => .bl _))) pss_nil') (pss_one' (ps_ret' (pe_all' rfl rfl b_all (pa_cons' (pe_lc' (own := [("row", 5), ("cell", 6)]) rfl sc.nd (pi_zip' rfl b_zip (pa_cons' (pv' 3) (pa_cons' (pv' 4) pa_nil'))) (blkOk_by (N := N_solution_holds) (sc := defScope s_solution_holds) (own := [("row", 5), ("cell", 6)]) (by decide +kernel)) (nmTg_seq (nmTgs_consG (nmTg (by decide)) (nmTgs_consG (nmTg (by decide)) nmTgs_nil))) (fun _ _ _ _ _ => (PGor (pg_tup rfl (pgs_cons (pg_name (i := 5) sc.nd rfl (by first | exact Or.inl rfl | exact Or.inr rfl)) (pgs_cons (pg_name (i := 6) sc.nd rfl (by first | exact Or.inl rfl | exact Or.inr rfl)) pgs_nil))) (pg_unl rfl (pgs_cons (pg_name (i := 5) sc.nd rfl (by first | exact Or.inl rfl | exact Or.inr rfl)) (pgs_cons (pg_name (i := 6) sc.nd rfl (by first | exact Or.inl rfl | exact Or.inr rfl)) pgs_nil))))) (fun _ _ _ _ _ => pts_nil') (fun _ _ _ _ _ => (pe_eq' (u64 hr) (pe_P C_product pass0 hr (by decide) hgd rfl (pa_cons' (pv' 5) (pa_cons' (pv' 2) pa_nil')) (aCons_len (aCons_len aNil_len)) rfl) (pv' 6)))) pa_nil'))))))))
abbrev s_reasons_hold : Stmt := top 28
abbrev N_reasons_hold : List Str := ["rows", "goals", "value", "told", "wanted"]
theorem sc_reasons_hold : FnScope N_reasons_hold ["rows", "goals", "value"] (defScope s_reasons_hold) := ⟨rfl, rfl, rfl, by decide +kernel, rfl, by decide +kernel, by decide +kernel⟩
theorem ok_reasons_hold (F : FnP K "reasons_hold" s_reasons_hold f fd) (gm : mg "reasons_hold" = some (.ref f)) (b_len : mg "len" = none) (b_any : mg "any" = none) (C_check_rows : CalD P w K mg base T "check_rows" s_check_rows 4 ["value"] f_check_rows) (C_check_row : CalD P w K mg base T "check_row" s_check_row 4 ["value", "width"] f_check_row) (C_is_row_of : CalD P w K mg base T "is_row_of" s_is_row_of 4 ["value", "width"] f_is_row_of) (C_sum_of_rows : CalD P w K mg base T "sum_of_rows" s_sum_of_rows 2 ["rows", "multiples"] f_sum_of_rows) (C_product : CalD P w K mg base T "product" s_product 1 ["one", "other"] f_product) : CalD P w K mg base T "reasons_hold" s_reasons_hold 5 ["rows", "goals", "value"] f_reasons_hold :=
  CalD.mk' F gm (fun _ _ _ _ _ _ us hl => match us, hl with | [_, _, _], _ => rfl) (fnG_of F sc_reasons_hold rfl fun cdv A outer s H E hr hgd tk =>
    have sc := sc_reasons_hold
    (pss_cons' (ps_set' (i := 3) sc.nd rfl (by first | exact Or.inl rfl | exact Or.inr rfl) (pe_P C_check_rows (passT tk) hr (by decide) hgd rfl (pa_cons' (pv' 0) pa_nil') (aCons_len aNil_len) rfl)) (pss_cons' (ps_set' (i := 4) sc.nd rfl (by first | exact Or.inl rfl | exact Or.inr rfl) (pe_P C_check_row (passT tk) hr (by decide) hgd rfl (pa_cons' (pv' 1) (pa_cons' (pe_len' rfl b_len (pa_cons' (pv' 3) pa_nil')) pa_nil')) (aCons_len (aCons_len aNil_len)) rfl)) (pss_cons' (ps_if' (pt_not' (pt_tru' (pe_P C_is_row_of (passT tk) hr (by decide) hgd rfl (pa_cons' (pv' 2) (pa_cons' (pe_len' rfl b_len (pa_cons' (pv' 3) pa_nil')) pa_nil')) (aCons_len (aCons_len aNil_len)) rfl))) (pss_one' (ps_ret' (pe_C' pe_bl fun _ => .bl _))) pss_nil') (pss_one' (ps_ret' (pe_and' (pe_not' (pe_anyF' rfl rfl b_any (pa_cons' (pe_P C_sum_of_rows (passT tk) hr (by decide) hgd rfl (pa_cons' (pv' 3) (pa_cons' (pv' 2) pa_nil')) (aCons_len (aCons_len aNil_len)) rfl) pa_nil'))) (pe_and1' (pe_ne' (u64 hr) (pe_P C_product (passT tk) hr (by decide) hgd rfl (pa_cons' (pv' 2) (pa_cons' (pv' 4) pa_nil')) (aCons_len (aCons_len aNil_len)) rfl) (pe_C' pe_int fun _ => .int _))))))))))
abbrev s__law_box : Stmt := top 30
abbrev N__law_box : List Str := ["_law_script", "_law_k", "_law_cell"]
theorem sc__law_box : FnScope N__law_box ["_law_script", "_law_k"] (defScope s__law_box) := ⟨rfl, rfl, rfl, by decide +kernel, rfl, by decide +kernel, by decide +kernel⟩
theorem ok__law_box (F : FnP K "_law_box" s__law_box f fd) (gm : mg "_law_box" = some (.ref f)) (b_len : mg "len" = none) (b_abs : mg "abs" = none) (b_int : mg "int" = none) : CalD P w K mg base T "_law_box" s__law_box 1 ["_law_script", "_law_k"] f__law_box :=
  CalD.mk' F gm (fun _ _ _ _ _ _ us hl => match us, hl with | [_, _], _ => rfl) (fnG_of F sc__law_box rfl fun cdv A outer s H E hr hgd tk =>
    have sc := sc__law_box
    (pss_cons' (ps_set' (i := 2) sc.nd rfl (by first | exact Or.inl rfl | exact Or.inr rfl) (pe_add' (pe_mul' (pe_C' pe_int fun _ => .int _) (pv' 1)) (pe_C' pe_int fun _ => .int _))) (pss_cons' (ps_if' (pt_lt' (pv' 1) (pe_len' rfl b_len (pa_cons' (pv' 0) pa_nil'))) (pss_one' (ps_set' (i := 2) sc.nd rfl (by first | exact Or.inl rfl | exact Or.inr rfl) (pe_abs' rfl b_abs (pa_cons' (pe_ix' (fun _ _ => rfl) (pv' 0) (pv' 1)) pa_nil')))) (pss_one' (ps_if' (pt_gt' (pe_len' rfl b_len (pa_cons' (pv' 0) pa_nil')) (pe_C' pe_int fun _ => .int _)) (pss_one' (ps_set' (i := 2) sc.nd rfl (by first | exact Or.inl rfl | exact Or.inr rfl) (pe_add' (pv' 2) (pe_mul' (pe_mod' (pe_int' rfl b_int (pa_cons' (pe_abs' rfl b_abs (pa_cons' (pe_ix' (fun _ _ => rfl) (pv' 0) (pe_mod' (pe_int' rfl b_int (pa_cons' (pv' 1) pa_nil')) (pe_len' rfl b_len (pa_cons' (pv' 0) pa_nil')))) pa_nil')) pa_nil')) (pe_C' pe_int fun _ => .int _)) (pe_C' pe_int fun _ => .int _))))) pss_nil'))) (pss_one' (ps_ret' (pe_newL (pa_cons' (pe_ix' (fun _ _ => rfl) (pe_lst' (pa_cons' (pe_C' pe_int fun _ => .int _) (pa_cons' (pv' 2) pa_nil'))) (pe_int' rfl b_int (pa_cons' (pe_ge' (pv' 2) (pe_pow' (pe_C' pe_int fun _ => .int _) (pe_C' pe_int fun _ => .int _))) pa_nil'))) (pa_cons' (pe_add' (pe_mod' (pe_int' rfl b_int (pa_cons' (pe_add' (pe_mul' (pe_mod' (pe_int' rfl b_int (pa_cons' (pv' 2) pa_nil')) (pe_C' pe_int fun _ => .int _)) (pe_C' pe_int fun _ => .int _)) (pe_mul' (pe_C' pe_int fun _ => .int _) (pv' 1))) pa_nil')) (pe_C' pe_int fun _ => .int _)) (pe_C' pe_int fun _ => .int _)) (pa_cons' (pe_C' pe_int fun _ => .int _) pa_nil')))))))))
abbrev s__law_take : Stmt := top 31
abbrev N__law_take : List Str := ["_law_box_here", "_law_many", "_law_digit", "_law_raw"]
theorem sc__law_take : FnScope N__law_take ["_law_box_here", "_law_many"] (defScope s__law_take) := ⟨rfl, rfl, rfl, by decide +kernel, rfl, by decide +kernel, by decide +kernel⟩
theorem ok__law_take (F : FnP K "_law_take" s__law_take f fd) (gm : mg "_law_take" = some (.ref f)) (b_int : mg "int" = none) : CalD P w K mg base T "_law_take" s__law_take 1 ["_law_box_here", "_law_many"] f__law_take :=
  CalD.mk' F gm (fun _ _ _ _ _ _ us hl => match us, hl with | [_, _], _ => rfl) (fnG_of F sc__law_take rfl fun cdv A outer s H E hr hgd tk =>
    have sc := sc__law_take
    (pss_cons' (ps_if' (pt_gt' (pe_ix' (fun _ _ => rfl) (pv' 0) (pe_C' pe_int fun _ => .int _)) (pe_C' pe_int fun _ => .int _)) (pss_cons' (ps_set' (i := 2) sc.nd rfl (by first | exact Or.inl rfl | exact Or.inr rfl) (pe_mod' (pe_int' rfl b_int (pa_cons' (pe_ix' (fun _ _ => rfl) (pv' 0) (pe_C' pe_int fun _ => .int _)) pa_nil')) (pv' 1))) (pss_cons' (ps_asg' (pe_fdv' (pe_ix' (fun _ _ => rfl) (pv' 0) (pe_C' pe_int fun _ => .int _)) (pv' 1)) (pg_sub' (fun _ _ ho hi => pg_sub ho hi set_list) (pv' 0) (pe_C' pe_int fun _ => .int _))) (pss_one' (ps_ret' (pv' 2))))) pss_nil') (pss_cons' (ps_asg' (pe_add' (pe_ix' (fun _ _ => rfl) (pv' 0) (pe_C' pe_int fun _ => .int _)) (pe_C' pe_int fun _ => .int _)) (pg_sub' (fun _ _ ho hi => pg_sub ho hi set_list) (pv' 0) (pe_C' pe_int fun _ => .int _))) (pss_cons' (ps_set' (i := 3) sc.nd rfl (by first | exact Or.inl rfl | exact Or.inr rfl) (pe_mod' (pe_int' rfl b_int (pa_cons' (pe_add' (pe_mul' (pe_add' (pe_ix' (fun _ _ => rfl) (pv' 0) (pe_C' pe_int fun _ => .int _)) (pe_mul' (pe_C' pe_int fun _ => .int _) (pe_ix' (fun _ _ => rfl) (pv' 0) (pe_C' pe_int fun _ => .int _)))) (pe_C' pe_int fun _ => .int _)) (pe_C' pe_int fun _ => .int _)) pa_nil')) (pe_C' pe_int fun _ => .int _))) (pss_cons' (ps_asg' (pe_add' (pe_mod' (pe_int' rfl b_int (pa_cons' (pe_add' (pe_mul' (pv' 3) (pe_C' pe_int fun _ => .int _)) (pe_C' pe_int fun _ => .int _)) pa_nil')) (pe_C' pe_int fun _ => .int _)) (pe_C' pe_int fun _ => .int _)) (pg_sub' (fun _ _ ho hi => pg_sub ho hi set_list) (pv' 0) (pe_C' pe_int fun _ => .int _))) (pss_one' (ps_ret' (pe_mod' (pe_int' rfl b_int (pa_cons' (pe_fdv' (pe_add' (pe_mul' (pv' 3) (pe_C' pe_int fun _ => .int _)) (pe_ix' (fun _ _ => rfl) (pv' 0) (pe_C' pe_int fun _ => .int _))) (pe_C' pe_int fun _ => .int _)) pa_nil')) (pv' 1)))))))))
abbrev s__law_pick : Stmt := top 32
abbrev N__law_pick : List Str := ["_law_box_here", "_law_some"]
theorem sc__law_pick : FnScope N__law_pick ["_law_box_here", "_law_some"] (defScope s__law_pick) := ⟨rfl, rfl, rfl, by decide +kernel, rfl, by decide +kernel, by decide +kernel⟩
theorem ok__law_pick (F : FnP K "_law_pick" s__law_pick f fd) (gm : mg "_law_pick" = some (.ref f)) (b_len : mg "len" = none) (C__law_take : CalD P w K mg base T "_law_take" s__law_take 1 ["_law_box_here", "_law_many"] f__law_take) : CalD P w K mg base T "_law_pick" s__law_pick 2 ["_law_box_here", "_law_some"] f__law_pick :=
  CalD.mk' F gm (fun _ _ _ _ _ _ us hl => match us, hl with | [_, _], _ => rfl) (fnG_of F sc__law_pick rfl fun cdv A outer s H E hr hgd tk =>
    have sc := sc__law_pick
    (pss_one' (ps_ret' (pe_ix' (fun _ _ => rfl) (pv' 1) (pe_M C__law_take (passT tk) hr (by decide) hgd rfl (pa_cons' (pv' 0) (pa_cons' (pe_len' rfl b_len (pa_cons' (pv' 1) pa_nil')) pa_nil')) (aCons_len (aCons_len aNil_len)) rfl)))))
abbrev s__law_rows : Stmt := top 33
abbrev N__law_rows : List Str := ["_law_box_here", "_law_most", "_law_width", "_law_style", "_law_found", "_law_turn", "_law_row", "_law_one", "_law_other", "_law_many", "_law_column", "_law_here", "_law_there"]
theorem sc__law_rows : FnScope N__law_rows ["_law_box_here", "_law_most"] (defScope s__law_rows) := ⟨rfl, rfl, rfl, by decide +kernel, rfl, by decide +kernel, by decide +kernel⟩
theorem ok__law_rows (F : FnP K "_law_rows" s__law_rows f fd) (gm : mg "_law_rows" = some (.ref f)) (b_range : mg "range" = none) (b_tuple : mg "tuple" = none) (b_zip : mg "zip" = none) (b_int : mg "int" = none) (C__law_take : CalD P w K mg base T "_law_take" s__law_take 1 ["_law_box_here", "_law_many"] f__law_take) (C__law_pick : CalD P w K mg base T "_law_pick" s__law_pick 2 ["_law_box_here", "_law_some"] f__law_pick) : CalD P w K mg base T "_law_rows" s__law_rows 3 ["_law_box_here", "_law_most"] f__law_rows :=
  CalD.mk' F gm (fun _ _ _ _ _ _ us hl => match us, hl with | [_, _], _ => rfl) (fnG_of F sc__law_rows rfl fun cdv A outer s H E hr hgd tk =>
    have sc := sc__law_rows
    (pss_cons' (ps_asg' (pe_tup' (pa_cons' (pe_add' (pe_C' pe_int fun _ => .int _) (pe_M C__law_take (passT tk) hr (by decide) hgd rfl (pa_cons' (pv' 0) (pa_cons' (pv' 1) pa_nil')) (aCons_len (aCons_len aNil_len)) rfl)) (pa_cons' (pe_M C__law_take (passT tk) hr (by decide) hgd rfl (pa_cons' (pv' 0) (pa_cons' (pe_C' pe_int fun _ => .int _) pa_nil')) (aCons_len (aCons_len aNil_len)) rfl) pa_nil'))) (pg_seq' (n := 2) rfl (pgs_cons' (pg_name' (i := 2) sc.nd rfl (by first | exact Or.inl rfl | exact Or.inr rfl)) (pgs_cons' (pg_name' (i := 3) sc.nd rfl (by first | exact Or.inl rfl | exact Or.inr rfl)) pgs_nil')))) (pss_cons' (ps_set' (i := 4) sc.nd rfl (by first | exact Or.inl rfl | exact Or.inr rfl) (pe_newL pa_nil')) (pss_cons' (ps_for' (passes_of rfl) rfl (pi_range1' rfl b_range (pa_cons' (pe_add' (pe_C' pe_int fun _ => .int _) (pe_M C__law_take (passT tk) hr (by decide) hgd rfl (pa_cons' (pv' 0) (pa_cons' (pv' 1) pa_nil')) (aCons_len (aCons_len aNil_len)) rfl)) pa_nil')) (pg_name' (i := 5) sc.nd rfl (by first | exact Or.inl rfl | exact Or.inr rfl)) (pss_cons' (ps_set' (i := 6) sc.nd rfl (by first | exact Or.inl rfl | exact Or.inr rfl) (pe_tuple' rfl b_tuple (pa_cons' (pe_lc' (own := [("_law_column", 10)]) rfl sc.nd (pi_range1' rfl b_range (pa_cons' (pv' 2) pa_nil')) (blkOk_by (N := N__law_rows) (sc := defScope s__law_rows) (own := [("_law_column", 10)]) (by decide +kernel)) (nmTg (by decide)) (fun _ _ _ _ _ => (pg_name (i := 10) sc.nd rfl (by first | exact Or.inl rfl | exact Or.inr rfl))) (fun _ _ _ _ _ => pts_nil') (fun _ _ _ _ _ => (pe_ifExp' (pt_lt' (pv' 3) (pe_C' pe_int fun _ => .int _)) (pe_M C__law_pick pass0 hr (by decide) hgd rfl (pa_cons' (pv' 0) (pa_cons' (pe_lst' (pa_cons' (pe_C' pe_int fun _ => .int _) (pa_cons' (pe_C' pe_int fun _ => .int _) (pa_cons' (pe_C' pe_int fun _ => .int _) (pa_cons' (pe_M C__law_take pass0 hr (by decide) hgd rfl (pa_cons' (pv' 0) (pa_cons' (pe_C' pe_int fun _ => .int _) pa_nil')) (aCons_len (aCons_len aNil_len)) rfl) pa_nil'))))) pa_nil')) (aCons_len (aCons_len aNil_len)) rfl) (pe_M C__law_take pass0 hr (by decide) hgd rfl (pa_cons' (pv' 0) (pa_cons' (pe_C' pe_int fun _ => .int _) pa_nil')) (aCons_len (aCons_len aNil_len)) rfl)))) pa_nil'))) (pss_cons' (ps_if' (PW.pt (pw_and' (pt_eq' (u64 hr) (pv' 3) (pe_C' pe_int fun _ => .int _)) (pw_and1' (pt_ne' (u64 hr) (pv' 4) (pe_lst' pa_nil'))))) (pss_cons' (ps_par' (i := 7) (j := 8) rfl sc.nd rfl rfl (by decide) rfl rfl (pa_cons' (pe_M C__law_pick (passT tk) hr (by decide) hgd rfl (pa_cons' (pv' 0) (pa_cons' (pv' 4) pa_nil')) (aCons_len (aCons_len aNil_len)) rfl) (pa_cons' (pe_M C__law_pick (passT tk) hr (by decide) hgd rfl (pa_cons' (pv' 0) (pa_cons' (pv' 4) pa_nil')) (aCons_len (aCons_len aNil_len)) rfl) pa_nil')) (by with_unfolding_all rfl)) (pss_cons' (ps_set' (i := 9) sc.nd rfl (by first | exact Or.inl rfl | exact Or.inr rfl) (pe_M C__law_take (passT tk) hr (by decide) hgd rfl (pa_cons' (pv' 0) (pa_cons' (pe_C' pe_int fun _ => .int _) pa_nil')) (aCons_len (aCons_len aNil_len)) rfl)) (pss_one' (ps_set' (i := 6) sc.nd rfl (by first | exact Or.inl rfl | exact Or.inr rfl) (pe_tuple' rfl b_tuple (pa_cons' (pe_lc' (own := [("_law_here", 11), ("_law_there", 12)]) rfl sc.nd (pi_zip' rfl b_zip (pa_cons' (pv' 7) (pa_cons' (pv' 8) pa_nil'))) (blkOk_by (N := N__law_rows) (sc := defScope s__law_rows) (own := [("_law_here", 11), ("_law_there", 12)]) (by decide +kernel)) (nmTg_seq (nmTgs_consG (nmTg (by decide)) (nmTgs_consG (nmTg (by decide)) nmTgs_nil))) (fun _ _ _ _ _ => (PGor (pg_tup rfl (pgs_cons (pg_name (i := 11) sc.nd rfl (by first | exact Or.inl rfl | exact Or.inr rfl)) (pgs_cons (pg_name (i := 12) sc.nd rfl (by first | exact Or.inl rfl | exact Or.inr rfl)) pgs_nil))) (pg_unl rfl (pgs_cons (pg_name (i := 11) sc.nd rfl (by first | exact Or.inl rfl | exact Or.inr rfl)) (pgs_cons (pg_name (i := 12) sc.nd rfl (by first | exact Or.inl rfl | exact Or.inr rfl)) pgs_nil))))) (fun _ _ _ _ _ => pts_nil') (fun _ _ _ _ _ => (pe_mod' (pe_int' rfl b_int (pa_cons' (pe_add' (pv' 11) (pe_mul' (pv' 9) (pv' 12))) pa_nil')) (pe_C' pe_int fun _ => .int _)))) pa_nil')))))) pss_nil') (pss_one' (ps_expr' (pe_append' (pv' 4) (pa_cons' (pv' 6) pa_nil'))))))) (pss_frz 4 (pss_one' (ps_ret' (pv' 4))))))))
abbrev s__law_product : Stmt := top 34
abbrev N__law_product : List Str := ["_law_one", "_law_other", "_law_here", "_law_there"]
theorem sc__law_product : FnScope N__law_product ["_law_one", "_law_other"] (defScope s__law_product) := ⟨rfl, rfl, rfl, by decide +kernel, rfl, by decide +kernel, by decide +kernel⟩
theorem ok__law_product (F : FnP K "_law_product" s__law_product f fd) (gm : mg "_law_product" = some (.ref f)) (b_int : mg "int" = none) (b_sum : mg "sum" = none) (b_zip : mg "zip" = none) : CalD P w K mg base T "_law_product" s__law_product 1 ["_law_one", "_law_other"] f__law_product :=
  CalD.mk' F gm (fun _ _ _ _ _ _ us hl => match us, hl with | [_, _], _ => rfl) (fnG_of F sc__law_product rfl fun cdv A outer s H E hr hgd tk =>
    have sc := sc__law_product
    (pss_one' (ps_ret' (pe_mod' (pe_int' rfl b_int (pa_cons' (pe_sum' rfl rfl b_sum (pa_cons' (pe_lc' (own := [("_law_here", 2), ("_law_there", 3)]) rfl sc.nd (pi_zip' rfl b_zip (pa_cons' (pv' 0) (pa_cons' (pv' 1) pa_nil'))) (blkOk_by (N := N__law_product) (sc := defScope s__law_product) (own := [("_law_here", 2), ("_law_there", 3)]) (by decide +kernel)) (nmTg_seq (nmTgs_consG (nmTg (by decide)) (nmTgs_consG (nmTg (by decide)) nmTgs_nil))) (fun _ _ _ _ _ => (PGor (pg_tup rfl (pgs_cons (pg_name (i := 2) sc.nd rfl (by first | exact Or.inl rfl | exact Or.inr rfl)) (pgs_cons (pg_name (i := 3) sc.nd rfl (by first | exact Or.inl rfl | exact Or.inr rfl)) pgs_nil))) (pg_unl rfl (pgs_cons (pg_name (i := 2) sc.nd rfl (by first | exact Or.inl rfl | exact Or.inr rfl)) (pgs_cons (pg_name (i := 3) sc.nd rfl (by first | exact Or.inl rfl | exact Or.inr rfl)) pgs_nil))))) (fun _ _ _ _ _ => pts_nil') (fun _ _ _ _ _ => (pe_mul' (pv' 2) (pv' 3)))) pa_nil')) pa_nil')) (pe_C' pe_int fun _ => .int _)))))
abbrev s__law_sum : Stmt := top 35
abbrev N__law_sum : List Str := ["_law_rows_here", "_law_multiples", "_law_column", "_law_row"]
theorem sc__law_sum : FnScope N__law_sum ["_law_rows_here", "_law_multiples"] (defScope s__law_sum) := ⟨rfl, rfl, rfl, by decide +kernel, rfl, by decide +kernel, by decide +kernel⟩
theorem ok__law_sum (F : FnP K "_law_sum" s__law_sum f fd) (gm : mg "_law_sum" = some (.ref f)) (b_tuple : mg "tuple" = none) (b_range : mg "range" = none) (b_len : mg "len" = none) (C__law_product : CalD P w K mg base T "_law_product" s__law_product 1 ["_law_one", "_law_other"] f__law_product) : CalD P w K mg base T "_law_sum" s__law_sum 2 ["_law_rows_here", "_law_multiples"] f__law_sum :=
  CalD.mk' F gm (fun _ _ _ _ _ _ us hl => match us, hl with | [_, _], _ => rfl) (fnG_of F sc__law_sum rfl fun cdv A outer s H E hr hgd tk =>
    have sc := sc__law_sum
    (pss_one' (ps_ret' (pe_tuple' rfl b_tuple (pa_cons' (pe_lc' (own := [("_law_column", 2)]) rfl sc.nd (pi_range1' rfl b_range (pa_cons' (pe_len' rfl b_len (pa_cons' (pe_ix' (fun _ _ => rfl) (pv' 0) (pe_C' pe_int fun _ => .int _)) pa_nil')) pa_nil')) (blkOk_by (N := N__law_sum) (sc := defScope s__law_sum) (own := [("_law_column", 2)]) (by decide +kernel)) (nmTg (by decide)) (fun _ _ _ _ _ => (pg_name (i := 2) sc.nd rfl (by first | exact Or.inl rfl | exact Or.inr rfl))) (fun _ _ _ _ _ => pts_nil') (fun _ _ _ _ _ => (pe_P C__law_product pass0 hr (by decide) hgd rfl (pa_cons' (pe_lc' (own := [("_law_row", 3)]) rfl sc.nd (pi_seq' (pv' 0)) (blkOk_by (N := N__law_sum) (sc := _) (own := [("_law_row", 3)]) (by kernel_rfl)) (nmTg (by decide)) (fun _ _ _ _ _ => (pg_name (i := 3) sc.nd rfl (by first | exact Or.inl rfl | exact Or.inr rfl))) (fun _ _ _ _ _ => pts_nil') (fun _ _ _ _ _ => (pe_ix' (fun _ _ => rfl) (pv' 3) (pv' 2)))) (pa_cons' (pv' 1) pa_nil')) (aCons_len (aCons_len aNil_len)) rfl))) pa_nil')))))
abbrev s__law_is_row : Stmt := top 36
abbrev N__law_is_row : List Str := ["_law_value", "_law_many", "_law_cell"]
theorem sc__law_is_row : FnScope N__law_is_row ["_law_value", "_law_many"] (defScope s__law_is_row) := ⟨rfl, rfl, rfl, by decide +kernel, rfl, by decide +kernel, by decide +kernel⟩
theorem ok__law_is_row (F : FnP K "_law_is_row" s__law_is_row f fd) (gm : mg "_law_is_row" = some (.ref f)) (b_isinstance : mg "isinstance" = none) (b_tuple : mg "tuple" = none) (b_list : mg "list" = none) (b_len : mg "len" = none) (b_int : mg "int" = none) (b_bool : mg "bool" = none) : CalD P w K mg base T "_law_is_row" s__law_is_row 1 ["_law_value", "_law_many"] f__law_is_row :=
  CalD.mk' F gm (fun _ _ _ _ _ _ us hl => match us, hl with | [_, _], _ => rfl) (fnG_of F sc__law_is_row rfl fun cdv A outer s H E hr hgd tk =>
    have sc := sc__law_is_row
    (pss_cons' (ps_if' (PW.pt (pw_or' (pt_not' (pt_tru' (pe_isiT (ns := ["list", "tuple"]) (by decide) (by decide) rfl b_isinstance (pa_tyS (pe_bltn (v := .ty "list") rfl b_list (by decide +kernel) rfl) (pa_tyS (pe_bltn (v := .ty "tuple") rfl b_tuple (by decide +kernel) rfl) pa_ty0)) (pv' 0)))) (pw_or1' (pt_ne' (u64 hr) (pe_len' rfl b_len (pa_cons' (pv' 0) pa_nil')) (pv' 1))))) (pss_one' (ps_ret' (pe_C' pe_bl fun _ => .bl _))) pss_nil') (pss_one' (ps_ret' (pe_eq' (u64 hr) (pe_lc' (own := [("_law_cell", 2)]) rfl sc.nd (pi_seq' (pv' 0)) (blkOk_by (N := N__law_is_row) (sc := defScope s__law_is_row) (own := [("_law_cell", 2)]) (by decide +kernel)) (nmTg (by decide)) (fun _ _ _ _ _ => (pg_name (i := 2) sc.nd rfl (by first | exact Or.inl rfl | exact Or.inr rfl))) (fun _ _ _ _ _ => (pts_one' (PW.pt (pw_or' (pt_not' (pt_tru' (pe_isi1 (n := "int") (by decide) rfl b_isinstance (pe_bltn rfl b_int (by decide +kernel) rfl) (pv' 2)))) (pw_or' (pt_tru' (pe_isi1 (n := "bool") (by decide) rfl b_isinstance (pe_bltn rfl b_bool (by decide +kernel) rfl) (pv' 2))) (pw_or1' (pt_not' (pt_chn' op_le op_lt (fun _ _ _ _ => le_r) (fun _ _ _ _ => lt_r) (pe_C' pe_int fun _ => .int _) (pv' 2) (pe_C' pe_int fun _ => .int _))))))))) (fun _ _ _ _ _ => (pv' 2))) (pe_lst' pa_nil'))))))
abbrev s__law_bent : Stmt := top 37
abbrev N__law_bent : List Str := ["_law_box_here", "_law_many", "_law_value", "_law_row", "_law_at", "_law_many_times", "_law_more", "_law_cell"]
theorem sc__law_bent : FnScope N__law_bent ["_law_box_here", "_law_many", "_law_value"] (defScope s__law_bent) := ⟨rfl, rfl, rfl, by decide +kernel, rfl, by decide +kernel, by decide +kernel⟩
theorem ok__law_bent (F : FnP K "_law_bent" s__law_bent f fd) (gm : mg "_law_bent" = some (.ref f)) (b_list : mg "list" = none) (b_range : mg "range" = none) (b_int : mg "int" = none) (b_isinstance : mg "isinstance" = none) (b_bool : mg "bool" = none) (b_tuple : mg "tuple" = none) (C__law_take : CalD P w K mg base T "_law_take" s__law_take 1 ["_law_box_here", "_law_many"] f__law_take) (C__law_pick : CalD P w K mg base T "_law_pick" s__law_pick 2 ["_law_box_here", "_law_some"] f__law_pick) : CalD P w K mg base T "_law_bent" s__law_bent 3 ["_law_box_here", "_law_many", "_law_value"] f__law_bent :=
  CalD.mk' F gm (fun _ _ _ _ _ _ us hl => match us, hl with | [_, _, _], _ => rfl) (fnG_of F sc__law_bent rfl fun cdv A outer s H E hr hgd tk =>
    have sc := sc__law_bent
    (pss_cons' (ps_set' (i := 3) sc.nd rfl (by first | exact Or.inl rfl | exact Or.inr rfl) (pe_ifExp' (pt_isNot' (pv' 2) (pe_C' pe_non fun _ => .non)) (pe_newList rfl b_list (pa_cons' (pv' 2) pa_nil')) (pe_lcN (own := [("_law_cell", 7)]) rfl sc.nd (pi_nOf (pi_range1' rfl b_range (pa_cons' (pv' 1) pa_nil'))) (blkOk_by (N := N__law_bent) (sc := defScope s__law_bent) (own := [("_law_cell", 7)]) (by decide +kernel)) (nmTg (by decide)) (fun _ _ _ _ _ => (pg_name (i := 7) sc.nd rfl (by first | exact Or.inl rfl | exact Or.inr rfl))) (fun _ _ _ _ _ => pts_nil') (fun _ _ _ _ _ => (pe_M C__law_take pass0 hr (by decide) hgd rfl (pa_cons' (pv' 0) (pa_cons' (pe_C' pe_int fun _ => .int _) pa_nil')) (aCons_len (aCons_len aNil_len)) rfl))))) (pss_cons' (ps_set' (i := 4) sc.nd rfl (by first | exact Or.inl rfl | exact Or.inr rfl) (pe_M C__law_take (passT tk) hr (by decide) hgd rfl (pa_cons' (pv' 0) (pa_cons' (pv' 1) pa_nil')) (aCons_len (aCons_len aNil_len)) rfl)) (pss_cons' (ps_asg' (pe_M C__law_pick (passT tk) hr (by decide) hgd rfl (pa_cons' (pv' 0) (pa_cons' (pe_lst' (pa_cons' (pe_ix' (fun _ _ => rfl) (pv' 3) (pv' 4)) (pa_cons' (pe_ix' (fun _ _ => rfl) (pv' 3) (pv' 4)) (pa_cons' (pe_mod' (pe_int' rfl b_int (pa_cons' (pe_add' (pe_ix' (fun _ _ => rfl) (pv' 3) (pv' 4)) (pe_C' pe_int fun _ => .int _)) pa_nil')) (pe_C' pe_int fun _ => .int _)) (pa_cons' (pe_C' pe_int fun _ => .int _) (pa_cons' (pe_sub' (pe_C' pe_int fun _ => .int _) (pe_C' pe_int fun _ => .int _)) (pa_cons' (pe_C' pe_non fun _ => .non) (pa_cons' (pe_C' pe_bl fun _ => .bl _) (pa_cons' (pe_C' pe_str fun _ => .str _) (pa_cons' (pe_tup' (pa_cons' (pe_C' pe_int fun _ => .int _) pa_nil')) pa_nil')))))))))) pa_nil')) (aCons_len (aCons_len aNil_len)) rfl) (pg_sub' (fun _ _ ho hi => pg_sub ho hi set_list) (pv' 3) (pv' 4))) (pss_cons' (ps_set' (i := 5) sc.nd rfl (by first | exact Or.inl rfl | exact Or.inr rfl) (pe_add' (pe_C' pe_int fun _ => .int _) (pe_M C__law_take (passT tk) hr (by decide) hgd rfl (pa_cons' (pv' 0) (pa_cons' (pe_C' pe_int fun _ => .int _) pa_nil')) (aCons_len (aCons_len aNil_len)) rfl))) (pss_frz 3 (pss_cons' (ps_setLc' (i := 6) (own := [("_law_cell", 7)]) rfl sc.nd rfl rfl (sw_true rfl rfl rfl (by decide +kernel)) (pi_seq' (pv' 3)) (blkOk_by (N := N__law_bent) (sc := defScope s__law_bent) (own := [("_law_cell", 7)]) (by decide +kernel)) (nmTg (by decide)) (fun _ _ _ _ _ => (pg_name (i := 7) sc.nd rfl (by first | exact Or.inl rfl | exact Or.inr rfl))) (fun _ _ _ _ _ => pts_nil') (fun _ _ _ _ _ => (pe_ifExp' (PW.pt (pw_and' (pt_tru' (pe_isi1 (n := "int") (by decide) rfl b_isinstance (pe_bltn rfl b_int (by decide +kernel) rfl) (pv' 7))) (pw_and' (pt_not' (pt_tru' (pe_isi1 (n := "bool") (by decide) rfl b_isinstance (pe_bltn rfl b_bool (by decide +kernel) rfl) (pv' 7)))) (pw_and1' (pt_chn' op_le op_lt (fun _ _ _ _ => le_r) (fun _ _ _ _ => lt_r) (pe_C' pe_int fun _ => .int _) (pv' 7) (pe_C' pe_int fun _ => .int _)))))) (pe_mod' (pe_int' rfl b_int (pa_cons' (pe_mul' (pv' 7) (pv' 5)) pa_nil')) (pe_C' pe_int fun _ => .int _)) (pv' 7)))) (pss_one' (ps_ret' (pe_M C__law_pick (passT tk) hr (by decide) hgd rfl (pa_cons' (pv' 0) (pa_cons' (pe_lst' (pa_cons' (pv' 3) (pa_cons' (pe_tuple' rfl b_tuple (pa_cons' (pv' 3) pa_nil')) (pa_cons' (pv' 6) (pa_cons' (pv' 6) (pa_cons' (pe_slice' (pv' 3) (po_some' (pe_C' pe_int fun _ => .int _)) po_none') (pa_cons' (pe_add' (pv' 3) (pe_lst' (pa_cons' (pe_C' pe_int fun _ => .int _) pa_nil'))) (pa_cons' (pe_rep' (pe_lst' (pa_cons' (pe_C' pe_int fun _ => .int _) pa_nil')) (pv' 1)) (pa_cons' (pe_C' pe_non fun _ => .non) (pa_cons' (pe_rep' (pe_C' pe_str fun _ => .str _) (pv' 1)) (pa_cons' (pe_C' pe_int fun _ => .int _) pa_nil'))))))))))) pa_nil')) (aCons_len (aCons_len aNil_len)) rfl))))))))))
abbrev s_law : Stmt := top 38
abbrev N_law : List Str := ["_law_script", "_law_k", "_law_box_here", "_law_rows_here", "_law_goals", "_law_told", "_law_why", "_law_one", "_law_other", "_law_turn", "_law_due", "_law_row"]
theorem sc_law : FnScope N_law ["_law_script"] (defScope s_law) := ⟨rfl, rfl, rfl, by decide +kernel, rfl, by decide +kernel, by decide +kernel⟩
theorem okG_law (F : FnP K "law" s_law f fd) (b_range : mg "range" = none) (b_tuple : mg "tuple" = none) (b_int : mg "int" = none) (b_len : mg "len" = none) (b_list : mg "list" = none) (b_repr : mg "repr" = none) (b_any : mg "any" = none) (C__law_box : CalD P w K mg base T "_law_box" s__law_box 1 ["_law_script", "_law_k"] f__law_box) (C__law_rows : CalD P w K mg base T "_law_rows" s__law_rows 3 ["_law_box_here", "_law_most"] f__law_rows) (C__law_take : CalD P w K mg base T "_law_take" s__law_take 1 ["_law_box_here", "_law_many"] f__law_take) (C_solve : CalD P w K mg base T "solve" s_solve 6 ["rows", "goals"] f_solve) (C_reasons : CalD P w K mg base T "reasons" s_reasons 6 ["rows", "goals"] f_reasons) (C__law_is_row : CalD P w K mg base T "_law_is_row" s__law_is_row 1 ["_law_value", "_law_many"] f__law_is_row) (C__law_product : CalD P w K mg base T "_law_product" s__law_product 1 ["_law_one", "_law_other"] f__law_product) (C_solution_holds : CalD P w K mg base T "solution_holds" s_solution_holds 5 ["rows", "goals", "value"] f_solution_holds) (C__law_sum : CalD P w K mg base T "_law_sum" s__law_sum 2 ["_law_rows_here", "_law_multiples"] f__law_sum) (C_reasons_hold : CalD P w K mg base T "reasons_hold" s_reasons_hold 5 ["rows", "goals", "value"] f_reasons_hold) (C__law_bent : CalD P w K mg base T "_law_bent" s__law_bent 3 ["_law_box_here", "_law_many", "_law_value"] f__law_bent) : FnG P w K mg base 7 f fd ["_law_script"] (spM K mg T 1 f_law) :=
  fnG_of F sc_law rfl fun cdv A outer s H E hr hgd tk =>
    have sc := sc_law
    (pss_cons' (ps_for' (passes_of rfl) rfl (pi_range1' rfl b_range (pa_cons' (pe_C' pe_int fun _ => .int _) pa_nil')) (pg_name' (i := 1) sc.nd rfl (by first | exact Or.inl rfl | exact Or.inr rfl)) (pss_cons' (ps_set' (i := 2) sc.nd rfl (by first | exact Or.inl rfl | exact Or.inr rfl) (pe_M C__law_box (passT tk) hr (by decide) hgd rfl (pa_cons' (pv' 0) (pa_cons' (pv' 1) pa_nil')) (aCons_len (aCons_len aNil_len)) rfl)) (pss_cons' (ps_set' (i := 3) sc.nd rfl (by first | exact Or.inl rfl | exact Or.inr rfl) (pe_M C__law_rows (passT tk) hr (by decide) hgd rfl (pa_cons' (pv' 2) (pa_cons' (pe_C' pe_int fun _ => .int _) pa_nil')) (aCons_len (aCons_len aNil_len)) rfl)) (pss_cons' (ps_set' (i := 4) sc.nd rfl (by first | exact Or.inl rfl | exact Or.inr rfl) (pe_tuple' rfl b_tuple (pa_cons' (pe_lc' (own := [("_law_row", 11)]) rfl sc.nd (pi_seq' (pv' 3)) (blkOk_by (N := N_law) (sc := defScope s_law) (own := [("_law_row", 11)]) (by decide +kernel)) (nmTg (by decide)) (fun _ _ _ _ _ => (pg_name (i := 11) sc.nd rfl (by first | exact Or.inl rfl | exact Or.inr rfl))) (fun _ _ _ _ _ => pts_nil') (fun _ _ _ _ _ => (pe_mul' (pe_M C__law_take pass0 hr (by decide) hgd rfl (pa_cons' (pv' 2) (pa_cons' (pe_C' pe_int fun _ => .int _) pa_nil')) (aCons_len (aCons_len aNil_len)) rfl) (pe_int' rfl b_int (pa_cons' (pe_ne' (u64 hr) (pv' 1) (pe_C' pe_int fun _ => .int _)) pa_nil'))))) pa_nil'))) (pss_cons' (ps_par' (i := 5) (j := 6) rfl sc.nd rfl rfl (by decide) rfl rfl (pa_cons' (pe_P C_solve (passT tk) hr (by decide) hgd rfl (pa_cons' (pv' 3) (pa_cons' (pv' 4) pa_nil')) (aCons_len (aCons_len aNil_len)) rfl) (pa_cons' (pe_P C_reasons (passT tk) hr (by decide) hgd rfl (pa_cons' (pv' 3) (pa_cons' (pv' 4) pa_nil')) (aCons_len (aCons_len aNil_len)) rfl) pa_nil')) (by with_unfolding_all rfl)) (pss_cons' (ps_asg' (pe_tup' (pa_cons' (pe_ifExp' (pt_isNot' (pv' 5) (pe_C' pe_non fun _ => .non)) (pe_ix' (fun _ _ => rfl) (pv' 5) (pe_C' pe_int fun _ => .int _)) (pe_C' pe_non fun _ => .non)) (pa_cons' (pv' 6) pa_nil'))) (pg_seq' (n := 2) rfl (pgs_cons' (pg_name' (i := 7) sc.nd rfl (by first | exact Or.inl rfl | exact Or.inr rfl)) (pgs_cons' (pg_name' (i := 8) sc.nd rfl (by first | exact Or.inl rfl | exact Or.inr rfl)) pgs_nil')))) (pss_one' (ps_for' (passes_of rfl) rfl (pi_range1' rfl b_range (pa_cons' (pe_C' pe_int fun _ => .int _) pa_nil')) (pg_name' (i := 9) sc.nd rfl (by first | exact Or.inl rfl | exact Or.inr rfl)) (pss_cons' (ps_set' (i := 10) sc.nd rfl (by first | exact Or.inl rfl | exact Or.inr rfl) (pe_and' (pe_P C__law_is_row (passT tk) hr (by decide) hgd rfl (pa_cons' (pv' 7) (pa_cons' (pe_len' rfl b_len (pa_cons' (pe_ix' (fun _ _ => rfl) (pv' 3) (pe_C' pe_int fun _ => .int _)) pa_nil')) pa_nil')) (aCons_len (aCons_len aNil_len)) rfl) (pe_and1' (pe_eq' (u64 hr) (pe_lc' (own := [("_law_row", 11)]) rfl sc.nd (pi_seq' (pv' 3)) (blkOk_by (N := N_law) (sc := defScope s_law) (own := [("_law_row", 11)]) (by decide +kernel)) (nmTg (by decide)) (fun _ _ _ _ _ => (pg_name (i := 11) sc.nd rfl (by first | exact Or.inl rfl | exact Or.inr rfl))) (fun _ _ _ _ _ => pts_nil') (fun _ _ _ _ _ => (pe_P C__law_product pass0 hr (by decide) hgd rfl (pa_cons' (pv' 11) (pa_cons' (pv' 7) pa_nil')) (aCons_len (aCons_len aNil_len)) rfl))) (pe_list' rfl b_list (pa_cons' (pv' 4) pa_nil')))))) (pss_cons' (ps_if' (pt_ne' (u64 hr) (pe_repr' hgd (u200 hr) rfl b_repr (pa_cons' (pe_lst' (pa_cons' (pe_P C_solution_holds (passT tk) hr (by decide) hgd rfl (pa_cons' (pv' 3) (pa_cons' (pv' 4) (pa_cons' (pv' 7) pa_nil'))) (aCons_len (aCons_len (aCons_len aNil_len))) rfl) (pa_cons' (pe_K0 (ks := ["value", "goals", "rows"]) (idx := [2, 1, 0]) (b := 3) C_solution_holds (fun _ _ _ _ _ _ us ws h1 h2 => match us, ws, h1, h2 with | [], [_, _, _], _, _ => rfl) (fun ds h => match ds, h with | [_, _, _], _ => rfl) (passT tk) hr (by decide) hgd rfl (pk_cons' (pv' 7) (pk_cons' (pe_list' rfl b_list (pa_cons' (pv' 4) pa_nil')) (pk_cons' (pe_tuple' rfl b_tuple (pa_cons' (pv' 3) pa_nil')) pk_nil'))) (aCons_len (aCons_len (aCons_len aNil_len)))) pa_nil'))) pa_nil')) (pe_repr' hgd (u200 hr) rfl b_repr (pa_cons' (pe_lst' (pa_cons' (pv' 10) (pa_cons' (pv' 10) pa_nil'))) pa_nil'))) (pss_one' (ps_ret' (pe_C' pe_bl fun _ => .bl _))) pss_nil') (pss_cons' (ps_set' (i := 10) sc.nd rfl (by first | exact Or.inl rfl | exact Or.inr rfl) (pe_and' (pe_P C__law_is_row (passT tk) hr (by decide) hgd rfl (pa_cons' (pv' 8) (pa_cons' (pe_len' rfl b_len (pa_cons' (pv' 3) pa_nil')) pa_nil')) (aCons_len (aCons_len aNil_len)) rfl) (pe_and' (pe_not' (pe_anyF' rfl rfl b_any (pa_cons' (pe_P C__law_sum (passT tk) hr (by decide) hgd rfl (pa_cons' (pv' 3) (pa_cons' (pv' 8) pa_nil')) (aCons_len (aCons_len aNil_len)) rfl) pa_nil'))) (pe_and1' (pe_ne' (u64 hr) (pe_P C__law_product (passT tk) hr (by decide) hgd rfl (pa_cons' (pv' 8) (pa_cons' (pv' 4) pa_nil')) (aCons_len (aCons_len aNil_len)) rfl) (pe_C' pe_int fun _ => .int _)))))) (pss_cons' (ps_if' (pt_ne' (u64 hr) (pe_repr' hgd (u200 hr) rfl b_repr (pa_cons' (pe_lst' (pa_cons' (pe_P C_reasons_hold (passT tk) hr (by decide) hgd rfl (pa_cons' (pv' 3) (pa_cons' (pv' 4) (pa_cons' (pv' 8) pa_nil'))) (aCons_len (aCons_len (aCons_len aNil_len))) rfl) (pa_cons' (pe_K0 (ks := ["value", "goals", "rows"]) (idx := [2, 1, 0]) (b := 3) C_reasons_hold (fun _ _ _ _ _ _ us ws h1 h2 => match us, ws, h1, h2 with | [], [_, _, _], _, _ => rfl) (fun ds h => match ds, h with | [_, _, _], _ => rfl) (passT tk) hr (by decide) hgd rfl (pk_cons' (pv' 8) (pk_cons' (pe_list' rfl b_list (pa_cons' (pv' 4) pa_nil')) (pk_cons' (pe_tuple' rfl b_tuple (pa_cons' (pv' 3) pa_nil')) pk_nil'))) (aCons_len (aCons_len (aCons_len aNil_len)))) pa_nil'))) pa_nil')) (pe_repr' hgd (u200 hr) rfl b_repr (pa_cons' (pe_lst' (pa_cons' (pv' 10) (pa_cons' (pv' 10) pa_nil'))) pa_nil'))) (pss_one' (ps_ret' (pe_C' pe_bl fun _ => .bl _))) pss_nil') (pss_cons' (ps_if' (PW.pt (pw_and' (pt_tru' (pv' 10)) (pw_and1' (pt_isNot' (pv' 5) (pe_C' pe_non fun _ => .non))))) (pss_one' (ps_ret' (pe_C' pe_bl fun _ => .bl _))) pss_nil') (pss_one' (ps_asg' (pe_tup' (pa_cons' (pe_M C__law_bent (passT tk) hr (by decide) hgd rfl (pa_cons' (pv' 2) (pa_cons' (pe_len' rfl b_len (pa_cons' (pe_ix' (fun _ _ => rfl) (pv' 3) (pe_C' pe_int fun _ => .int _)) pa_nil')) (pa_cons' (pe_ifExp' (pt_isNot' (pv' 5) (pe_C' pe_non fun _ => .non)) (pe_ix' (fun _ _ => rfl) (pv' 5) (pe_C' pe_int fun _ => .int _)) (pe_C' pe_non fun _ => .non)) pa_nil'))) (aCons_len (aCons_len (aCons_len aNil_len))) rfl) (pa_cons' (pe_M C__law_bent (passT tk) hr (by decide) hgd rfl (pa_cons' (pv' 2) (pa_cons' (pe_len' rfl b_len (pa_cons' (pv' 3) pa_nil')) (pa_cons' (pv' 6) pa_nil'))) (aCons_len (aCons_len (aCons_len aNil_len))) rfl) pa_nil'))) (pg_seq' (n := 2) rfl (pgs_cons' (pg_name' (i := 7) sc.nd rfl (by first | exact Or.inl rfl | exact Or.inr rfl)) (pgs_cons' (pg_name' (i := 8) sc.nd rfl (by first | exact Or.inl rfl | exact Or.inr rfl)) pgs_nil')))))))))))))))))) (pss_one' (ps_ret' (pe_C' pe_bl fun _ => .bl _))))
end
end K04

set_option Elab.async false
set_option linter.all false
set_option maxRecDepth 100000
set_option maxHeartbeats 0
namespace K04
open PySem PySem.Spec PyProof.Rows L2 Kw
def dd_is_integer : He.DefD := ⟨("is_integer", none), "is_integer", "is_integer", defArgs s_is_integer, defBody s_is_integer, defScope s_is_integer, [], []⟩
def dd_is_number : He.DefD := ⟨("is_number", none), "is_number", "is_number", defArgs s_is_number, defBody s_is_number, defScope s_is_number, [], []⟩
def dd_is_below : He.DefD := ⟨("is_below", none), "is_below", "is_below", defArgs s_is_below, defBody s_is_below, defScope s_is_below, [], []⟩
def dd_is_sequence : He.DefD := ⟨("is_sequence", none), "is_sequence", "is_sequence", defArgs s_is_sequence, defBody s_is_sequence, defScope s_is_sequence, [], []⟩
def dd_times : He.DefD := ⟨("times", none), "times", "times", defArgs s_times, defBody s_times, defScope s_times, [], []⟩
def dd_inverse : He.DefD := ⟨("inverse", none), "inverse", "inverse", defArgs s_inverse, defBody s_inverse, defScope s_inverse, [], []⟩
def dd_check_row : He.DefD := ⟨("check_row", none), "check_row", "check_row", defArgs s_check_row, defBody s_check_row, defScope s_check_row, [], []⟩
def dd_check_rows : He.DefD := ⟨("check_rows", none), "check_rows", "check_rows", defArgs s_check_rows, defBody s_check_rows, defScope s_check_rows, [], []⟩
def dd_product : He.DefD := ⟨("product", none), "product", "product", defArgs s_product, defBody s_product, defScope s_product, [], []⟩
def dd_mixed : He.DefD := ⟨("mixed", none), "mixed", "mixed", defArgs s_mixed, defBody s_mixed, defScope s_mixed, [], []⟩
def dd_sum_of_rows : He.DefD := ⟨("sum_of_rows", none), "sum_of_rows", "sum_of_rows", defArgs s_sum_of_rows, defBody s_sum_of_rows, defScope s_sum_of_rows, [], []⟩
def dd_first_column : He.DefD := ⟨("first_column", none), "first_column", "first_column", defArgs s_first_column, defBody s_first_column, defScope s_first_column, [], []⟩
def dd_unit : He.DefD := ⟨("unit", none), "unit", "unit", defArgs s_unit, defBody s_unit, defScope s_unit, [], []⟩
def dd_cleared : He.DefD := ⟨("cleared", none), "cleared", "cleared", defArgs s_cleared, defBody s_cleared, defScope s_cleared, [], []⟩
def dd_steps_and_rest : He.DefD := ⟨("steps_and_rest", none), "steps_and_rest", "steps_and_rest", defArgs s_steps_and_rest, defBody s_steps_and_rest, defScope s_steps_and_rest, [], []⟩
def dd_free_row : He.DefD := ⟨("free_row", none), "free_row", "free_row", defArgs s_free_row, defBody s_free_row, defScope s_free_row, [], []⟩
def dd_solve : He.DefD := ⟨("solve", none), "solve", "solve", defArgs s_solve, defBody s_solve, defScope s_solve, [], []⟩
def dd_reasons : He.DefD := ⟨("reasons", none), "reasons", "reasons", defArgs s_reasons, defBody s_reasons, defScope s_reasons, [], []⟩
def dd_is_row_of : He.DefD := ⟨("is_row_of", none), "is_row_of", "is_row_of", defArgs s_is_row_of, defBody s_is_row_of, defScope s_is_row_of, [], []⟩
def dd_solution_holds : He.DefD := ⟨("solution_holds", none), "solution_holds", "solution_holds", defArgs s_solution_holds, defBody s_solution_holds, defScope s_solution_holds, [], []⟩
def dd_reasons_hold : He.DefD := ⟨("reasons_hold", none), "reasons_hold", "reasons_hold", defArgs s_reasons_hold, defBody s_reasons_hold, defScope s_reasons_hold, [], []⟩
def dd__law_box : He.DefD := ⟨("_law_box", none), "_law_box", "_law_box", defArgs s__law_box, defBody s__law_box, defScope s__law_box, [], []⟩
def dd__law_take : He.DefD := ⟨("_law_take", none), "_law_take", "_law_take", defArgs s__law_take, defBody s__law_take, defScope s__law_take, [], []⟩
def dd__law_pick : He.DefD := ⟨("_law_pick", none), "_law_pick", "_law_pick", defArgs s__law_pick, defBody s__law_pick, defScope s__law_pick, [], []⟩
def dd__law_rows : He.DefD := ⟨("_law_rows", none), "_law_rows", "_law_rows", defArgs s__law_rows, defBody s__law_rows, defScope s__law_rows, [], []⟩
def dd__law_product : He.DefD := ⟨("_law_product", none), "_law_product", "_law_product", defArgs s__law_product, defBody s__law_product, defScope s__law_product, [], []⟩
def dd__law_sum : He.DefD := ⟨("_law_sum", none), "_law_sum", "_law_sum", defArgs s__law_sum, defBody s__law_sum, defScope s__law_sum, [], []⟩
def dd__law_is_row : He.DefD := ⟨("_law_is_row", none), "_law_is_row", "_law_is_row", defArgs s__law_is_row, defBody s__law_is_row, defScope s__law_is_row, [], []⟩
def dd__law_bent : He.DefD := ⟨("_law_bent", none), "_law_bent", "_law_bent", defArgs s__law_bent, defBody s__law_bent, defScope s__law_bent, [], []⟩
def dd_law : He.DefD := ⟨("law", none), "law", "law", defArgs s_law, defBody s_law, defScope s_law, [], []⟩
def fn : List He.DefD := [dd_is_integer, dd_is_number, dd_is_below, dd_is_sequence, dd_times, dd_inverse, dd_check_row, dd_check_rows, dd_product, dd_mixed, dd_sum_of_rows, dd_first_column, dd_unit, dd_cleared, dd_steps_and_rest, dd_free_row, dd_solve, dd_reasons, dd_is_row_of, dd_solution_holds, dd_reasons_hold, dd__law_box, dd__law_take, dd__law_pick, dd__law_rows, dd__law_product, dd__law_sum, dd__law_is_row, dd__law_bent, dd_law]
def fa : List He.Fa := [.glo "is_integer", .glo "is_number", .glo "is_below", .glo "is_sequence", .glo "times", .glo "inverse", .glo "check_row", .glo "check_rows", .glo "product", .glo "mixed", .glo "sum_of_rows", .glo "first_column", .glo "unit", .glo "cleared", .glo "steps_and_rest", .glo "free_row", .glo "solve", .glo "reasons", .glo "is_row_of", .glo "solution_holds", .glo "reasons_hold", .glo "_law_box", .glo "_law_take", .glo "_law_pick", .glo "_law_rows", .glo "_law_product", .glo "_law_sum", .glo "_law_is_row", .glo "_law_bent", .glo "law", .free "isinstance", .free "int", .free "bool", .free "tuple", .free "list", .free "range", .free "len", .free "all", .free "sum", .free "zip", .free "enumerate", .free "any", .free "abs", .free "repr", .int "CELL" 257, .int "BITS" 8, .int "MOST_ROWS" 40]
abbrev R : PySem.W.OpenRow := PySem.W.OpenLaw.row PySem.Challenge.rw_keptwhole_k04_papers_of_systems_bent
def ex (_ : PySem.W.Frag) : Bool := true
abbrev hk : PySem.W.Hook := He.hookX 4 fa fn [] [] ex
def ob (s : PySem.W.SharedT) : He.AlX := He.obsX 4 fa fn [] [] ex (HandSHeadRun.getT s)
theorem ob_eq (s : PySem.W.SharedT) : ob s = hk.obs s.abs := He.obsX_eq (HandSHeadRun.getT_eq s)
def loose : List Str := (["KeepError", "Refused", "is_integer", "is_number", "is_below", "is_sequence", "CELL", "BITS", "MOST_ROWS", "times", "inverse", "check_row", "check_rows", "product", "mixed", "sum_of_rows"] : List Str) ++ (["first_column", "unit", "steps_and_rest", "cleared", "solve", "free_row", "reasons", "is_row_of", "solution_holds", "reasons_hold", "_law_box", "_law_take", "_law_pick", "_law_rows", "_law_product", "_law_sum"] : List Str) ++ (["_law_is_row", "_law_bent"] : List Str)
theorem run (w : World) : HandSHeadRun.RunEq R (PySem.W.view R.prog [38]) hk ob 2000 loose w := by
  intro os
  kernel_rfl
theorem facts {P : Program} {w : World} {K : PySem.W.Frag} {h : Heap} {mg : Str → Option Value} {f : Addr} {T : List (Addr × Str)} (X : K.In h) (G : h.Ns mainGlobals mg) (hfa : mg ("law" : Str) = some (.ref f)) (c : He.SaysX fa fn [] [] ex w h K) :
    ∃ fd : FuncData, (∀ (s : Shared) (v : Value), BindsTo s fd ⟨[v], []⟩ [("_law_script", v)]) ∧ ∀ base : Heap, K.In base → base.Ns mainGlobals mg → FnG P w K mg base 7 f fd ["_law_script"] (spM K mg T 1 f_law) := by
  obtain ⟨fd_is_integer, F_is_integer⟩ := c.t.d.def_ 0 (d := dd_is_integer) rfl
  have g_is_integer := He.glo_ok X G (c.t.d.fact 0 (f := .glo "is_integer") rfl)
  obtain ⟨fd_is_number, F_is_number⟩ := c.t.d.def_ 1 (d := dd_is_number) rfl
  have g_is_number := He.glo_ok X G (c.t.d.fact 1 (f := .glo "is_number") rfl)
  obtain ⟨fd_is_below, F_is_below⟩ := c.t.d.def_ 2 (d := dd_is_below) rfl
  have g_is_below := He.glo_ok X G (c.t.d.fact 2 (f := .glo "is_below") rfl)
  obtain ⟨fd_is_sequence, F_is_sequence⟩ := c.t.d.def_ 3 (d := dd_is_sequence) rfl
  have g_is_sequence := He.glo_ok X G (c.t.d.fact 3 (f := .glo "is_sequence") rfl)
  obtain ⟨fd_times, F_times⟩ := c.t.d.def_ 4 (d := dd_times) rfl
  have g_times := He.glo_ok X G (c.t.d.fact 4 (f := .glo "times") rfl)
  obtain ⟨fd_inverse, F_inverse⟩ := c.t.d.def_ 5 (d := dd_inverse) rfl
  have g_inverse := He.glo_ok X G (c.t.d.fact 5 (f := .glo "inverse") rfl)
  obtain ⟨fd_check_row, F_check_row⟩ := c.t.d.def_ 6 (d := dd_check_row) rfl
  have g_check_row := He.glo_ok X G (c.t.d.fact 6 (f := .glo "check_row") rfl)
  obtain ⟨fd_check_rows, F_check_rows⟩ := c.t.d.def_ 7 (d := dd_check_rows) rfl
  have g_check_rows := He.glo_ok X G (c.t.d.fact 7 (f := .glo "check_rows") rfl)
  obtain ⟨fd_product, F_product⟩ := c.t.d.def_ 8 (d := dd_product) rfl
  have g_product := He.glo_ok X G (c.t.d.fact 8 (f := .glo "product") rfl)
  obtain ⟨fd_mixed, F_mixed⟩ := c.t.d.def_ 9 (d := dd_mixed) rfl
  have g_mixed := He.glo_ok X G (c.t.d.fact 9 (f := .glo "mixed") rfl)
  obtain ⟨fd_sum_of_rows, F_sum_of_rows⟩ := c.t.d.def_ 10 (d := dd_sum_of_rows) rfl
  have g_sum_of_rows := He.glo_ok X G (c.t.d.fact 10 (f := .glo "sum_of_rows") rfl)
  obtain ⟨fd_first_column, F_first_column⟩ := c.t.d.def_ 11 (d := dd_first_column) rfl
  have g_first_column := He.glo_ok X G (c.t.d.fact 11 (f := .glo "first_column") rfl)
  obtain ⟨fd_unit, F_unit⟩ := c.t.d.def_ 12 (d := dd_unit) rfl
  have g_unit := He.glo_ok X G (c.t.d.fact 12 (f := .glo "unit") rfl)
  obtain ⟨fd_cleared, F_cleared⟩ := c.t.d.def_ 13 (d := dd_cleared) rfl
  have g_cleared := He.glo_ok X G (c.t.d.fact 13 (f := .glo "cleared") rfl)
  obtain ⟨fd_steps_and_rest, F_steps_and_rest⟩ := c.t.d.def_ 14 (d := dd_steps_and_rest) rfl
  have g_steps_and_rest := He.glo_ok X G (c.t.d.fact 14 (f := .glo "steps_and_rest") rfl)
  obtain ⟨fd_free_row, F_free_row⟩ := c.t.d.def_ 15 (d := dd_free_row) rfl
  have g_free_row := He.glo_ok X G (c.t.d.fact 15 (f := .glo "free_row") rfl)
  obtain ⟨fd_solve, F_solve⟩ := c.t.d.def_ 16 (d := dd_solve) rfl
  have g_solve := He.glo_ok X G (c.t.d.fact 16 (f := .glo "solve") rfl)
  obtain ⟨fd_reasons, F_reasons⟩ := c.t.d.def_ 17 (d := dd_reasons) rfl
  have g_reasons := He.glo_ok X G (c.t.d.fact 17 (f := .glo "reasons") rfl)
  obtain ⟨fd_is_row_of, F_is_row_of⟩ := c.t.d.def_ 18 (d := dd_is_row_of) rfl
  have g_is_row_of := He.glo_ok X G (c.t.d.fact 18 (f := .glo "is_row_of") rfl)
  obtain ⟨fd_solution_holds, F_solution_holds⟩ := c.t.d.def_ 19 (d := dd_solution_holds) rfl
  have g_solution_holds := He.glo_ok X G (c.t.d.fact 19 (f := .glo "solution_holds") rfl)
  obtain ⟨fd_reasons_hold, F_reasons_hold⟩ := c.t.d.def_ 20 (d := dd_reasons_hold) rfl
  have g_reasons_hold := He.glo_ok X G (c.t.d.fact 20 (f := .glo "reasons_hold") rfl)
  obtain ⟨fd__law_box, F__law_box⟩ := c.t.d.def_ 21 (d := dd__law_box) rfl
  have g__law_box := He.glo_ok X G (c.t.d.fact 21 (f := .glo "_law_box") rfl)
  obtain ⟨fd__law_take, F__law_take⟩ := c.t.d.def_ 22 (d := dd__law_take) rfl
  have g__law_take := He.glo_ok X G (c.t.d.fact 22 (f := .glo "_law_take") rfl)
  obtain ⟨fd__law_pick, F__law_pick⟩ := c.t.d.def_ 23 (d := dd__law_pick) rfl
  have g__law_pick := He.glo_ok X G (c.t.d.fact 23 (f := .glo "_law_pick") rfl)
  obtain ⟨fd__law_rows, F__law_rows⟩ := c.t.d.def_ 24 (d := dd__law_rows) rfl
  have g__law_rows := He.glo_ok X G (c.t.d.fact 24 (f := .glo "_law_rows") rfl)
  obtain ⟨fd__law_product, F__law_product⟩ := c.t.d.def_ 25 (d := dd__law_product) rfl
  have g__law_product := He.glo_ok X G (c.t.d.fact 25 (f := .glo "_law_product") rfl)
  obtain ⟨fd__law_sum, F__law_sum⟩ := c.t.d.def_ 26 (d := dd__law_sum) rfl
  have g__law_sum := He.glo_ok X G (c.t.d.fact 26 (f := .glo "_law_sum") rfl)
  obtain ⟨fd__law_is_row, F__law_is_row⟩ := c.t.d.def_ 27 (d := dd__law_is_row) rfl
  have g__law_is_row := He.glo_ok X G (c.t.d.fact 27 (f := .glo "_law_is_row") rfl)
  obtain ⟨fd__law_bent, F__law_bent⟩ := c.t.d.def_ 28 (d := dd__law_bent) rfl
  have g__law_bent := He.glo_ok X G (c.t.d.fact 28 (f := .glo "_law_bent") rfl)
  obtain ⟨fd_law, F_law⟩ := c.t.d.def_ 29 (d := dd_law) rfl
  have g_law := He.glo_ok X G (c.t.d.fact 29 (f := .glo "law") rfl)
  have b_isinstance := He.free_ok X G (c.t.d.fact 30 (f := .free "isinstance") rfl)
  have b_int := He.free_ok X G (c.t.d.fact 31 (f := .free "int") rfl)
  have b_bool := He.free_ok X G (c.t.d.fact 32 (f := .free "bool") rfl)
  have b_tuple := He.free_ok X G (c.t.d.fact 33 (f := .free "tuple") rfl)
  have b_list := He.free_ok X G (c.t.d.fact 34 (f := .free "list") rfl)
  have b_range := He.free_ok X G (c.t.d.fact 35 (f := .free "range") rfl)
  have b_len := He.free_ok X G (c.t.d.fact 36 (f := .free "len") rfl)
  have b_all := He.free_ok X G (c.t.d.fact 37 (f := .free "all") rfl)
  have b_sum := He.free_ok X G (c.t.d.fact 38 (f := .free "sum") rfl)
  have b_zip := He.free_ok X G (c.t.d.fact 39 (f := .free "zip") rfl)
  have b_enumerate := He.free_ok X G (c.t.d.fact 40 (f := .free "enumerate") rfl)
  have b_any := He.free_ok X G (c.t.d.fact 41 (f := .free "any") rfl)
  have b_abs := He.free_ok X G (c.t.d.fact 42 (f := .free "abs") rfl)
  have b_repr := He.free_ok X G (c.t.d.fact 43 (f := .free "repr") rfl)
  have c_CELL : GlD K mg "CELL" d_CELL := GlD.int (He.int_ok X G (c.t.d.fact 44 (f := .int "CELL" 257) rfl))
  have c_BITS : GlD K mg "BITS" d_BITS := GlD.int (He.int_ok X G (c.t.d.fact 45 (f := .int "BITS" 8) rfl))
  have c_MOST_ROWS : GlD K mg "MOST_ROWS" d_MOST_ROWS := GlD.int (He.int_ok X G (c.t.d.fact 46 (f := .int "MOST_ROWS" 40) rfl))
  have e := hfa.symm.trans g_law
  cases e
  have bb := FunD.bindsA (ps := ["_law_script"]) F_law fun _ _ _ _ _ _ us hl => match us, hl with | [_], _ => rfl
  refine ⟨fd_law, fun s v => bb s [v] rfl, fun base _ _ => ?_⟩
  have C_is_integer := ok_is_integer (P := P) (w := w) (base := base) (T := T) F_is_integer g_is_integer b_isinstance b_int b_bool
  have C_is_number := ok_is_number (P := P) (w := w) (base := base) (T := T) F_is_number g_is_number C_is_integer
  have C_is_below := ok_is_below (P := P) (w := w) (base := base) (T := T) F_is_below g_is_below C_is_number
  have C_is_sequence := ok_is_sequence (P := P) (w := w) (base := base) (T := T) F_is_sequence g_is_sequence b_isinstance b_tuple b_list
  have C_times := ok_times (P := P) (w := w) (base := base) (T := T) F_times g_times c_CELL
  have C_inverse := ok_inverse (P := P) (w := w) (base := base) (T := T) F_inverse g_inverse b_range c_CELL c_BITS C_is_below C_times
  have C_check_row := ok_check_row (P := P) (w := w) (base := base) (T := T) F_check_row g_check_row b_len b_all b_tuple c_CELL C_is_sequence C_is_below
  have C_check_rows := ok_check_rows (P := P) (w := w) (base := base) (T := T) F_check_rows g_check_rows b_len b_all b_tuple c_MOST_ROWS c_CELL C_is_sequence C_is_below
  have C_product := ok_product (P := P) (w := w) (base := base) (T := T) F_product g_product b_sum b_zip c_CELL
  have C_mixed := ok_mixed (P := P) (w := w) (base := base) (T := T) F_mixed g_mixed b_tuple b_zip c_CELL
  have C_sum_of_rows := ok_sum_of_rows (P := P) (w := w) (base := base) (T := T) F_sum_of_rows g_sum_of_rows b_len b_zip C_mixed
  have C_first_column := ok_first_column (P := P) (w := w) (base := base) (T := T) F_first_column g_first_column b_enumerate
  have C_unit := ok_unit (P := P) (w := w) (base := base) (T := T) F_unit g_unit b_tuple b_range b_int
  have C_cleared := ok_cleared (P := P) (w := w) (base := base) (T := T) F_cleared g_cleared c_CELL C_mixed
  have C_steps_and_rest := ok_steps_and_rest (P := P) (w := w) (base := base) (T := T) F_steps_and_rest g_steps_and_rest b_enumerate b_len b_range b_tuple C_unit C_inverse C_times C_cleared
  have C_free_row := ok_free_row (P := P) (w := w) (base := base) (T := T) F_free_row g_free_row b_list b_zip b_tuple c_CELL C_unit
  have C_solve := ok_solve (P := P) (w := w) (base := base) (T := T) F_solve g_solve b_len b_any b_zip b_range b_tuple C_check_rows C_check_row C_steps_and_rest C_product C_first_column C_free_row
  have C_reasons := ok_reasons (P := P) (w := w) (base := base) (T := T) F_reasons g_reasons b_len b_tuple C_check_rows C_check_row C_steps_and_rest C_product C_inverse C_times
  have C_is_row_of := ok_is_row_of (P := P) (w := w) (base := base) (T := T) F_is_row_of g_is_row_of b_len b_all c_CELL C_is_sequence C_is_below
  have C_solution_holds := ok_solution_holds (P := P) (w := w) (base := base) (T := T) F_solution_holds g_solution_holds b_len b_all b_zip C_check_rows C_check_row C_is_row_of C_product
  have C_reasons_hold := ok_reasons_hold (P := P) (w := w) (base := base) (T := T) F_reasons_hold g_reasons_hold b_len b_any C_check_rows C_check_row C_is_row_of C_sum_of_rows C_product
  have C__law_box := ok__law_box (P := P) (w := w) (base := base) (T := T) F__law_box g__law_box b_len b_abs b_int
  have C__law_take := ok__law_take (P := P) (w := w) (base := base) (T := T) F__law_take g__law_take b_int
  have C__law_pick := ok__law_pick (P := P) (w := w) (base := base) (T := T) F__law_pick g__law_pick b_len C__law_take
  have C__law_rows := ok__law_rows (P := P) (w := w) (base := base) (T := T) F__law_rows g__law_rows b_range b_tuple b_zip b_int C__law_take C__law_pick
  have C__law_product := ok__law_product (P := P) (w := w) (base := base) (T := T) F__law_product g__law_product b_int b_sum b_zip
  have C__law_sum := ok__law_sum (P := P) (w := w) (base := base) (T := T) F__law_sum g__law_sum b_tuple b_range b_len C__law_product
  have C__law_is_row := ok__law_is_row (P := P) (w := w) (base := base) (T := T) F__law_is_row g__law_is_row b_isinstance b_tuple b_list b_len b_int b_bool
  have C__law_bent := ok__law_bent (P := P) (w := w) (base := base) (T := T) F__law_bent g__law_bent b_list b_range b_int b_isinstance b_bool b_tuple C__law_take C__law_pick
  exact okG_law F_law b_range b_tuple b_int b_len b_list b_repr b_any C__law_box C__law_rows C__law_take C_solve C_reasons C__law_is_row C__law_product C_solution_holds C__law_sum C_reasons_hold C__law_bent
end K04

set_option Elab.async false
set_option linter.all false
set_option maxRecDepth 100000
namespace Kw
open PySem PySem.Spec PyProof.Rows L2
section
variable {δ : Sv} {μ : Mem} {d : D}
@[simp] theorem eChn_run {g g' : D → D → Mem → Option D} {ma mb mc : EM} : eChn g g' ma mb mc δ μ = (ma δ μ).bind fun x μ1 => (mb δ μ1).bind fun y μ2 => match g x y μ2 with
  | some (.bl k) => if k = true then (mc δ μ2).bind fun z μ3 => oOf (g' y z μ3) μ3 else .ok (.bl false) μ2
  | _ => .stuck := nr rfl
@[simp] theorem eNewRep_run {ma mb : EM} : eNewRep ma mb δ μ = (ma δ μ).bind fun x μ1 => (mb δ μ1).bind fun y μ2 => match repL x y with
  | some ys => .ok (.loc μ2.length) (μ2 ++ [.lst ys])
  | none => .stuck := nr rfl
@[simp] theorem eLcN_run {pl : Bool} {mi : NM} {g : GM} {mt : TM} {me : EM} {vs : List Nat} : eLcN pl mi g mt me vs δ μ = (mi δ μ).bind fun p μ1 => match lcN p.1 g mt me (wipeD δ vs) p.2 0 μ1 with
  | .ok ys μ2 => if ys.length ≤ sizeLine then (if pl = true then .ok (.loc μ2.length) (μ2 ++ [.lst ys]) else .ok (.lst ys) μ2) else .stuck
  | _ => .stuck := nr rfl
@[simp] theorem iZip2_run {mr : AM} : iZip2 mr δ μ = (mr δ μ).bind fun xs μ1 => match xs with
  | [x, y] => match seqV x, seqV y with
    | some a, some b => .ok (zipD a b) μ1
    | _, _ => .stuck
  | _ => .stuck := nr rfl
@[simp] theorem iEnu_run {mr : AM} : iEnu mr δ μ = (mr δ μ).bind fun xs μ1 => match xs with
  | [x] => match seqV x with
    | some a => .ok (enumD 0 a) μ1
    | none => .stuck
  | _ => .stuck := nr rfl
@[simp] theorem iSeq_run {ma : EM} : iSeq ma δ μ = (ma δ μ).bind fun x μ1 => match seqV x with
  | some xs => .ok xs μ1
  | none => .stuck := nr rfl
@[simp] theorem gSeq_run {n : Nat} {gs : GsM} : gSeq n gs d δ μ = match seqOf μ d with
  | some xs => if xs.length = n then gs xs δ μ else .stuck
  | none => .stuck := nr rfl
@[simp] theorem gsCons_run {g : GM} {gs : GsM} {r : List D} : gsCons g gs (d :: r) δ μ = (g d δ μ).then (gs r) := nr rfl
@[simp] theorem gsNil_run : gsNil [] δ μ = .nx δ μ := nr rfl
@[simp] theorem seqV_tup {xs : List D} : seqV (.tup xs) = some xs := nr rfl
@[simp] theorem seqV_lst {xs : List D} : seqV (.lst xs) = some xs := nr rfl
@[simp] theorem seqOf_tup {xs : List D} : seqOf μ (.tup xs) = some xs := nr rfl
@[simp] theorem seqOf_lst {xs : List D} : seqOf μ (.lst xs) = some xs := nr rfl
@[simp] theorem lstOf_lst {xs : List D} : lstOf μ (.lst xs) = some xs := nr rfl
@[simp] theorem lstX_lst {xs : List D} : lstX μ (.lst xs) = some xs := nr rfl
@[simp] theorem gTuple_tup {xs : List D} : gTuple [.tup xs] μ = some (.tup xs) := nr rfl
@[simp] theorem gTuple_lst {xs : List D} : gTuple [.lst xs] μ = some (.tup xs) := nr rfl
@[simp] theorem gList_tup {xs : List D} : gList [.tup xs] μ = some (.lst xs) := nr rfl
@[simp] theorem gList_lst {xs : List D} : gList [.lst xs] μ = some (.lst xs) := nr rfl
@[simp] theorem gLen_tup {xs : List D} : gLen [.tup xs] μ = some (.int xs.length) := nr rfl
@[simp] theorem gLen_lst {xs : List D} : gLen [.lst xs] μ = some (.int xs.length) := nr rfl
@[simp] theorem gInt_bl {k : Bool} : gInt [.bl k] μ = some (.int (if k then 1 else 0)) := nr rfl
theorem szN {n : Nat} (h : n ≤ 1000000) : n ≤ sizeLine := by show _ ≤ 2 ^ 24; omega
theorem gTupD_run {ds : List D} (h : ds.length ≤ 1000000) : gTupD ds μ = some (.tup ds) := if_pos (szN h)
theorem gLstD_run {ds : List D} (h : ds.length ≤ 1000000) : gLstD ds μ = some (.lst ds) := if_pos (szN h)
end
/-! ### a law's box: a list of ints -/
def BoxN (k : Nat) (μ : Mem) (l : Nat) : Prop := ∃ xs : List Int, xs.length = k ∧ μ[l]? = some (.lst (xs.map D.int))
end Kw
namespace K04
open PySem PySem.Spec PyProof.Rows L2 Kw
def Bx (μ : Mem) (l : Nat) : Prop := ∃ a b c : Int, μ[l]? = some (.lst [.int a, .int b, .int c])
section
variable {μ : Mem} {l : Nat} {a b c d : D}
theorem ix0 (h : μ[l]? = some (.lst [a, b, c])) : gIx (.loc l) (.int 0) μ = some a := by simp [gIx, seqOf, lstOf, h]; rfl
theorem ix1 (h : μ[l]? = some (.lst [a, b, c])) : gIx (.loc l) (.int 1) μ = some b := by simp [gIx, seqOf, lstOf, h]; rfl
theorem ix2 (h : μ[l]? = some (.lst [a, b, c])) : gIx (.loc l) (.int 2) μ = some c := by simp [gIx, seqOf, lstOf, h]; rfl
theorem st0 (h : μ[l]? = some (.lst [a, b, c])) : gSet (.loc l) (.int 0) d μ = some (μ.set l (.lst [d, b, c])) := by simp [gSet, h]; rfl
theorem st1 (h : μ[l]? = some (.lst [a, b, c])) : gSet (.loc l) (.int 1) d μ = some (μ.set l (.lst [a, d, c])) := by simp [gSet, h]; rfl
theorem st2 (h : μ[l]? = some (.lst [a, b, c])) : gSet (.loc l) (.int 2) d μ = some (μ.set l (.lst [a, b, d])) := by simp [gSet, h]; rfl
end
theorem take_ok {μ : Mem} {l : Nat} {m : Int} (hb : Bx μ l) (h0 : 0 < m) (h1 : m < 1073741824) : ∃ r μ', f__law_take [.loc l, .int m] μ = .ok (.int r) μ' ∧ 0 ≤ r ∧ r < m ∧ Bx μ' l ∧ Stay l μ μ' := by
  obtain ⟨g, x, n, e⟩ := hb
  have hl : l < μ.length := (List.getElem?_eq_some_iff.mp e).1
  by_cases hp : 0 < g
  · refine ⟨g % m, μ.set l (.lst [.int (g / m), .int x, .int n]), ?_, Int.emod_nonneg _ (by omega), Int.emod_lt_of_pos _ h0, ⟨g / m, x, n, List.getElem?_set_self hl⟩, .set l μ _⟩
    unfold f__law_take bodyM m__law_take
    simp [eVar, ix0 e, hp, gMod_int h0, gFdv_int h0 h1, st0 e]
  · obtain ⟨r, hr⟩ : ∃ r : Int, r = ((x + 68023 * (n + 1)) * 53257 + 73) % 2147483423 := ⟨_, rfl⟩
    obtain ⟨y, hy⟩ : ∃ y : Int, y = (r * 49109 + 12007) % 2147483477 + 1 := ⟨_, rfl⟩
    have e1 : (μ.set l (.lst [.int g, .int x, .int (n + 1)]))[l]? = some (.lst [.int g, .int x, .int (n + 1)]) := List.getElem?_set_self hl
    have e2 : (μ.set l (.lst [.int g, .int y, .int (n + 1)]))[l]? = some (.lst [.int g, .int y, .int (n + 1)]) := List.getElem?_set_self hl
    refine ⟨(r * 2147483629 + y) / 8191 % m, μ.set l (.lst [.int g, .int y, .int (n + 1)]), ?_, Int.emod_nonneg _ (by omega), Int.emod_lt_of_pos _ h0, ⟨g, y, n + 1, e2⟩, .set l μ _⟩
    unfold f__law_take bodyM m__law_take
    simp [eVar, ix0 e, hp, ix2 e, st2 e, ix1 e1, ix2 e1, gMul_r, gMul_l, gMod_int, st1 e1, ← hr, ← hy, List.set_set, ix1 e2, gFdv_int, gMod_int h0]
theorem takeM {μ : Mem} {l : Nat} {m : Int} (hb : Bx μ l) (h0 : 0 < m) (h1 : m < 1073741824) : ∃ r μ', callM f__law_take [.loc l, .int m] μ = .ok (.int r) μ' ∧ 0 ≤ r ∧ r < m ∧ Bx μ' l ∧ Stay l μ μ' := by
  obtain ⟨r, μ', h, h2, h3, h4, h5⟩ := take_ok hb h0 h1
  exact ⟨r, μ', callM_ok h h5.1, h2, h3, h4, h5⟩
theorem atI_in {α : Type} {xs : List α} {r : Int} (h0 : 0 ≤ r) (h1 : r < xs.length) : ∃ y, atI xs r = some y ∧ y ∈ xs := by
  have hn : r.toNat < xs.length := by omega
  refine ⟨xs[r.toNat], ?_, List.getElem_mem hn⟩
  unfold atI ixN
  rw [if_pos h0, if_pos (by omega)]
  exact List.getElem?_eq_getElem hn
theorem pickM {μ : Mem} {l : Nat} {xs : List D} (hb : Bx μ l) (h0 : xs ≠ []) (h1 : xs.length < 1073741824) :
    ∃ y μ', callM f__law_pick [.loc l, .lst xs] μ = .ok y μ' ∧ y ∈ xs ∧ Bx μ' l ∧ Stay l μ μ' := by
  have hp : 0 < xs.length := by cases xs with
    | nil => exact absurd rfl h0
    | cons a b => simp
  obtain ⟨r, μ', h, r0, r1, hb', hs⟩ := takeM (m := xs.length) hb (by omega) (by omega)
  obtain ⟨y, hy, hm⟩ := atI_in r0 r1
  refine ⟨y, μ', callM_ok ?_ hs.1, hm, hb', hs⟩
  unfold f__law_pick bodyM m__law_pick
  simp [eVar, h, gIx, hy]
/-- .. from a list that may change -/
theorem pickML {μ : Mem} {l k : Nat} {xs : List D} (hk : μ[k]? = some (.lst xs)) (hlk : k ≠ l) (hb : Bx μ l) (h0 : xs ≠ []) (h1 : xs.length < 1073741824) :
    ∃ y μ', callM f__law_pick [.loc l, .loc k] μ = .ok y μ' ∧ y ∈ xs ∧ Bx μ' l ∧ Stay l μ μ' := by
  have hp : 0 < xs.length := by cases xs with
    | nil => exact absurd rfl h0
    | cons a b => simp
  obtain ⟨r, μ', h, r0, r1, hb', hs⟩ := takeM (m := xs.length) hb (by omega) (by omega)
  obtain ⟨y, hy, hm⟩ := atI_in r0 r1
  have hk' : μ'[k]? = some (.lst xs) := (hs.2 k hlk).trans hk
  refine ⟨y, μ', callM_ok ?_ hs.1, hm, hb', hs⟩
  unfold f__law_pick bodyM m__law_pick
  simp [eVar, gLen, seqOf, lstOf, hk, h, gIx, hk', hy]
theorem ix_scr {ns : List Int} {μ : Mem} {r : Int} (h0 : 0 ≤ r) (h1 : r < ns.length) : ∃ z, gIx (.scr (ns.map D.int)) (.int r) μ = some (.int z) := by
  obtain ⟨y, hy, hm⟩ := atI_in (xs := ns.map D.int) h0 (by simpa using h1)
  obtain ⟨z, _, rfl⟩ := List.mem_map.mp hm
  exact ⟨z, hy⟩
theorem len_scr {ns : List Int} {μ : Mem} : gLen [.scr (ns.map D.int)] μ = some (.int ns.length) := by simp [gLen, seqOf, lstOf]
theorem pow18 {μ : Mem} : gPow (.int 10) (.int 18) μ = some (.int 1000000000000000000) := rfl
theorem box_ok {ns : List Int} {k : Int} {μ : Mem} (h0 : 0 ≤ k) : ∃ g x : Int, f__law_box [.scr (ns.map D.int), .int k] μ = .ok (.loc μ.length) (μ ++ [.lst [.int g, .int x, .int 0]]) := by
  have sel : ∀ c : Int, gIx (.lst [.int 0, .int c]) (.int (if 1000000000000000000 ≤ c then 1 else 0)) μ = some (.int (if 1000000000000000000 ≤ c then c else 0)) := fun c => by
    by_cases h : 1000000000000000000 ≤ c <;> simp [h] <;> rfl
  have three : ∀ a b c : D, gNewL [a, b, c] μ = some (.loc μ.length, μ ++ [.lst [a, b, c]]) := fun a b c => rfl
  have two : ∀ a b : D, gLstD [a, b] μ = some (.lst [a, b]) := fun a b => rfl
  suffices h : ∃ c : Int, f__law_box [.scr (ns.map D.int), .int k] μ = .ok (.loc μ.length) (μ ++ [.lst [.int (if 1000000000000000000 ≤ c then c else 0), .int ((c % 2147483477 * 39827 + 38011 * k) % 2147483477 + 1), .int 0]]) from
    let ⟨c, h⟩ := h; ⟨_, _, h⟩
  by_cases h1 : k < ns.length
  · obtain ⟨z, hz⟩ := ix_scr (ns := ns) (μ := μ) h0 h1
    refine ⟨if z < 0 then -z else z, ?_⟩
    generalize hc : (if z < 0 then -z else z) = c
    have hs := sel c
    unfold f__law_box bodyM m__law_box
    simp [eVar, gMul_r, gMul_l, len_scr, h1, hz, hc, pow18, gMod_int, two, three]
    simp [hs, three]
  · by_cases h2 : 0 < ns.length
    · have hk := Int.emod_nonneg k (b := (ns.length : Int)) (by omega)
      have hk2 := Int.emod_lt_of_pos k (b := (ns.length : Int)) (by omega)
      obtain ⟨z, hz⟩ := ix_scr (ns := ns) (μ := μ) hk hk2
      have hl2 : (0 : Int) < ns.length := by omega
      have hm := gMod_int (i := k) (μ := μ) hl2
      refine ⟨9677 * k + 487 + (if z < 0 then -z else z) % 2147483477 * 49307, ?_⟩
      generalize hc : (if z < 0 then -z else z) = c
      have hs := sel (9677 * k + 487 + c % 2147483477 * 49307)
      unfold f__law_box bodyM m__law_box
      simp [eVar, gMul_r, gMul_l, len_scr, h1, h2, hm, hz, hc, pow18, gMod_int, two, three]
      simp [hs, three]
    · refine ⟨9677 * k + 487, ?_⟩
      have hs := sel (9677 * k + 487)
      unfold f__law_box bodyM m__law_box
      simp [eVar, gMul_r, gMul_l, len_scr, h1, h2, pow18, gMod_int, two, three]
      simp [hs, three]
end K04

set_option Elab.async false
set_option linter.all false
set_option maxRecDepth 100000
/-! plain rows of cells modulo 257 -/
namespace K04
/-- alike modulo 257 -/
def M (a b : Int) : Prop := (257 : Int) ∣ a - b
theorem M.of {a b : Int} (h : a % 257 = b % 257) : M a b := by unfold M; omega
theorem M.to {a b : Int} (h : M a b) : a % 257 = b % 257 := by unfold M at h; omega
theorem M.rfl' {a : Int} : M a a := by unfold M; omega
theorem M.symm {a b : Int} (h : M a b) : M b a := by unfold M at *; omega
theorem M.trans {a b c : Int} (h : M a b) (k : M b c) : M a c := by unfold M at *; omega
theorem M.add {a b c d : Int} (h : M a b) (k : M c d) : M (a + c) (b + d) := by unfold M at *; omega
theorem M.sub {a b c d : Int} (h : M a b) (k : M c d) : M (a - c) (b - d) := by unfold M at *; omega
theorem M.mul {a b : Int} (c : Int) (h : M a b) : M (c * a) (c * b) := by
  obtain ⟨k, hk⟩ := h
  refine ⟨c * k, ?_⟩
  rw [← Int.mul_sub, hk, Int.mul_left_comm]
theorem M.mod {a : Int} : M (a % 257) a := by unfold M; omega
def Cells (l : List Int) : Prop := ∀ x ∈ l, 0 ≤ x ∧ x < 257
def Cl (k : Nat) (l : List Int) : Prop := l.length = k ∧ Cells l
def dot (a b : List Int) : Int := (List.zipWith (fun x y => x * y) a b).sum
def prod (a b : List Int) : Int := dot a b % 257
def mix (r : List Int) (c : Int) (o : List Int) : List Int := List.zipWith (fun x y => (x + c * y) % 257) r o
def scl (t : Int) (r : List Int) : List Int := r.map fun x => x * t % 257
def at0 (r : List Int) (c : Nat) : Int := r.getD c 0
theorem dot_nil {b : List Int} : dot [] b = 0 := by simp [dot]
theorem dot_nil' {a : List Int} : dot a [] = 0 := by simp [dot]
theorem dot_cons {x y : Int} {a b : List Int} : dot (x :: a) (y :: b) = x * y + dot a b := by simp [dot]
theorem cells_mod (x : Int) : 0 ≤ x % 257 ∧ x % 257 < 257 := ⟨Int.emod_nonneg _ (by decide), Int.emod_lt_of_pos _ (by decide)⟩
theorem mix_len {r o : List Int} {c : Int} : (mix r c o).length = min r.length o.length := by simp [mix]
theorem mix_cl {n : Nat} {r o : List Int} {c : Int} (hr : r.length = n) (ho : o.length = n) : Cl n (mix r c o) := by
  refine ⟨by rw [mix_len]; omega, fun x hx => ?_⟩
  unfold mix at hx
  rw [List.mem_iff_getElem] at hx
  obtain ⟨i, hi, e⟩ := hx
  rw [List.getElem_zipWith] at e
  rw [← e]
  exact cells_mod _
theorem scl_cl {n : Nat} {r : List Int} {t : Int} (hr : r.length = n) : Cl n (scl t r) := by
  refine ⟨by simp [scl, hr], fun x hx => ?_⟩
  obtain ⟨y, _, rfl⟩ := List.mem_map.mp hx
  exact cells_mod _
theorem at0_lt {r : List Int} {c : Nat} (h : c < r.length) : at0 r c = r[c] := by simp [at0, List.getD_eq_getElem?_getD, h]
theorem mix_at {r o : List Int} {c : Int} {k : Nat} (h : k < r.length) (h' : k < o.length) : at0 (mix r c o) k = (at0 r k + c * at0 o k) % 257 := by
  rw [at0_lt (by rw [mix_len]; omega), at0_lt h, at0_lt h']
  simp [mix]
theorem scl_at {r : List Int} {t : Int} {k : Nat} (h : k < r.length) : at0 (scl t r) k = at0 r k * t % 257 := by
  rw [at0_lt (by simpa [scl] using h), at0_lt h]
  simp [scl]
theorem cell_at {n : Nat} {r : List Int} {k : Nat} (h : Cl n r) : 0 ≤ at0 r k ∧ at0 r k < 257 := by
  by_cases hk : k < r.length
  · rw [at0_lt hk]
    exact h.2 _ (List.getElem_mem hk)
  · have : at0 r k = 0 := by simp [at0, List.getD_eq_getElem?_getD, List.getElem?_eq_none (Nat.le_of_not_lt hk)]
    rw [this]
    omega
theorem dot_mix : ∀ (r o x : List Int) (c : Int), r.length = o.length → M (dot (mix r c o) x) (dot r x + c * dot o x)
  | [], [], x, c, _ => by simp [mix, dot_nil, M.rfl']
  | a :: r, b :: o, [], c, h => by simp [dot_nil', M.rfl']
  | a :: r, b :: o, y :: x, c, h => by
    have ih := dot_mix r o x c (by simpa using h)
    have e : mix (a :: r) c (b :: o) = (a + c * b) % 257 :: mix r c o := by simp [mix]
    rw [e, dot_cons, dot_cons, dot_cons]
    have h1 : M ((a + c * b) % 257 * y) ((a + c * b) * y) := by
      have := M.mul y (M.mod (a := a + c * b))
      rwa [Int.mul_comm y, Int.mul_comm y] at this
    have h2 := h1.add ih
    have e2 : (a + c * b) * y + (dot r x + c * dot o x) = a * y + dot r x + c * (b * y + dot o x) := by
      rw [Int.add_mul, Int.mul_add, Int.mul_assoc]
      omega
    rwa [e2] at h2
  | [], b :: o, x, c, h => by simp at h
  | a :: r, [], x, c, h => by simp at h
theorem dot_scl : ∀ (r x : List Int) (t : Int), M (dot (scl t r) x) (t * dot r x)
  | [], x, t => by simp [scl, dot_nil, M.rfl']
  | a :: r, [], t => by simp [dot_nil', M.rfl']
  | a :: r, y :: x, t => by
    have ih := dot_scl r x t
    have e : scl t (a :: r) = a * t % 257 :: scl t r := by simp [scl]
    rw [e, dot_cons, dot_cons]
    have h1 : M (a * t % 257 * y) (a * t * y) := by
      have := M.mul y (M.mod (a := a * t))
      rwa [Int.mul_comm y, Int.mul_comm y] at this
    have h2 := h1.add ih
    have e2 : a * t * y + t * dot r x = t * (a * y + dot r x) := by
      rw [Int.mul_add, Int.mul_comm a t, Int.mul_assoc]
    rwa [e2] at h2
/-- the sum with one cell changed -/
theorem dot_set : ∀ (r x : List Int) (c : Nat) (v : Int), c < x.length → r.length = x.length → dot r (x.set c v) = dot r x + at0 r c * (v - at0 x c)
  | a :: r, y :: x, 0, v, _, _ => by
    rw [List.set_cons_zero, dot_cons, dot_cons]
    simp only [at0, List.getD_cons_zero]
    rw [Int.mul_sub]
    omega
  | a :: r, y :: x, c + 1, v, h, h' => by
    have ih := dot_set r x c v (by simpa using h) (by simpa using h')
    rw [List.set_cons_succ, dot_cons, dot_cons, ih]
    simp only [at0, List.getD_cons_succ]
    omega
  | [], y :: x, c, v, _, h' => by simp at h'
  | _, [], c, v, h, _ => by simp at h
theorem dot_zero : ∀ (r : List Int) (n : Nat), dot r (List.replicate n 0) = 0
  | [], n => dot_nil
  | a :: r, 0 => by simp [dot_nil']
  | a :: r, n + 1 => by rw [List.replicate_succ, dot_cons, dot_zero r n]; simp
theorem zero_dot : ∀ (r x : List Int), (∀ c, c < r.length → at0 r c = 0) → dot r x = 0
  | [], x, _ => dot_nil
  | a :: r, [], _ => dot_nil'
  | a :: r, y :: x, h => by
    have h0 := h 0 (by simp)
    have ih := zero_dot r x fun c hc => by
      have := h (c + 1) (by simpa using hc)
      simpa [at0] using this
    have : a = 0 := by simpa [at0] using h0
    rw [dot_cons, ih, this]
    simp
def unitL (n i : Nat) : List Int := (List.range n).map fun k => if k = i then 1 else 0
theorem unitL_cl {n i : Nat} : Cl n (unitL n i) := by
  refine ⟨by simp [unitL], fun x hx => ?_⟩
  obtain ⟨k, _, rfl⟩ := List.mem_map.mp hx
  split <;> omega
theorem dot_comm : ∀ (a b : List Int), dot a b = dot b a
  | [], b => by rw [dot_nil, dot_nil']
  | a :: r, [] => by rw [dot_nil, dot_nil']
  | a :: r, y :: x => by rw [dot_cons, dot_cons, dot_comm r x, Int.mul_comm]
theorem unitL_set {n i : Nat} (h : i < n) : unitL n i = (List.replicate n (0 : Int)).set i 1 := by
  refine List.ext_getElem (by simp [unitL]) fun k h1 h2 => ?_
  simp only [unitL, List.getElem_map, List.getElem_range, List.getElem_set, List.getElem_replicate]
  by_cases e : k = i
  · subst e; simp
  · rw [if_neg e, if_neg (fun z => e z.symm)]
theorem dot_unit {n i : Nat} {g : List Int} (h : i < n) (hg : g.length = n) : dot (unitL n i) g = at0 g i := by
  rw [dot_comm, unitL_set h, dot_set _ _ _ _ (by simpa using h) (by simpa using hg), dot_zero]
  have : at0 (List.replicate n (0 : Int)) i = 0 := by simp [at0, List.getD_eq_getElem?_getD, List.getElem?_replicate, h]
  rw [this]
  omega
/-! ### the inverse -/
def invG : Nat → Int → Int → Int
  | 0, f, _ => f
  | n + 1, f, s => invG n (f * s % 257) (s * s % 257)
def inv (c : Int) : Int := invG 8 1 c
theorem inv_tab : ((List.range 257).all fun c => c == 0 || (inv (c : Int) * (c : Int) % 257 == 1 && (decide (0 ≤ inv (c : Int)) && decide (inv (c : Int) < 257)))) = true := by decide +kernel
theorem inv_ok {c : Int} (h0 : 0 < c) (h1 : c < 257) : c * inv c % 257 = 1 ∧ 0 ≤ inv c ∧ inv c < 257 := by
  have h := List.all_eq_true.mp inv_tab c.toNat (by rw [List.mem_range]; omega)
  have e : ((c.toNat : Nat) : Int) = c := by omega
  rw [e] at h
  rw [Bool.or_eq_true] at h
  rcases h with h | h
  · have : c.toNat = 0 := by simpa using h
    omega
  · simp only [Bool.and_eq_true, beq_iff_eq, decide_eq_true_eq] at h
    rw [Int.mul_comm]
    exact h
/-! ### the steps -/
abbrev P := List Int × List Int
def clr (col : Nat) (q p : P) : P := (mix p.1 (257 - at0 p.1 col) q.1, mix p.2 (257 - at0 p.1 col) q.2)
def scP (t : Int) (p : P) : P := (scl t p.1, scl t p.2)
structure GI (rows : List (List Int)) (w col : Nat) (left steps : List P) (piv : List Nat) : Prop where
  sh : ∀ p : P, p ∈ left ∨ p ∈ steps → Cl w p.1 ∧ Cl rows.length p.2
  snd : ∀ x g : List Int, x.length = w → g.length = rows.length → (∀ p : P, p ∈ left ∨ p ∈ steps → M (dot p.1 x) (dot p.2 g)) → ∀ i r, rows[i]? = some r → M (dot r x) (at0 g i)
  zL : ∀ p : P, p ∈ left → ∀ c, c < col → at0 p.1 c = 0
  pl : piv.length = steps.length
  pv : ∀ j c, piv[j]? = some c → c < col ∧ (∀ p : P, steps[j]? = some p → ∀ c', c' < c → at0 p.1 c' = 0) ∧ ∀ (i : Nat) (p : P), steps[i]? = some p → at0 p.1 c = if i = j then 1 else 0
  cnt : left.length + steps.length = rows.length
theorem GI.skip {rows : List (List Int)} {w col : Nat} {left steps : List P} {piv : List Nat} (h : GI rows w col left steps piv) (hz : ∀ p, p ∈ left → at0 p.1 col = 0) : GI rows w (col + 1) left steps piv :=
  ⟨h.sh, h.snd, fun p hp c hc => by
    by_cases e : c = col
    · subst e; exact hz p hp
    · exact h.zL p hp c (by omega), h.pl, fun j c hj => let ⟨a, b, d⟩ := h.pv j c hj; ⟨by omega, b, d⟩, h.cnt⟩
theorem GI.step {rows : List (List Int)} {w col k : Nat} {left steps : List P} {piv : List Nat} {p0 : P} (h : GI rows w col left steps piv) (hcol : col < w) (hk : left[k]? = some p0) (hnz : at0 p0.1 col ≠ 0) :
    GI rows w (col + 1) ((left.eraseIdx k).map (clr col (scP (inv (at0 p0.1 col)) p0))) (steps.map (clr col (scP (inv (at0 p0.1 col)) p0)) ++ [scP (inv (at0 p0.1 col)) p0]) (piv ++ [col]) := by
  have m0 : p0 ∈ left := List.mem_of_getElem? hk
  obtain ⟨s1, s2⟩ := h.sh p0 (.inl m0)
  have hc := cell_at (k := col) s1
  obtain ⟨i1, i2, i3⟩ := inv_ok (c := at0 p0.1 col) (by omega) hc.2
  generalize ht : inv (at0 p0.1 col) = t at *
  generalize hq : scP t p0 = q
  have q1 : Cl w q.1 := by rw [← hq]; exact scl_cl s1.1
  have q2 : Cl rows.length q.2 := by rw [← hq]; exact scl_cl s2.1
  have qz : ∀ c, c < col → at0 q.1 c = 0 := fun c hc => by
    rw [← hq]
    show at0 (scl t p0.1) c = 0
    rw [scl_at (by rw [s1.1]; omega), h.zL p0 m0 c hc]
    simp
  have qc : at0 q.1 col = 1 := by
    rw [← hq]
    show at0 (scl t p0.1) col = 1
    rw [scl_at (by rw [s1.1]; omega)]
    exact i1
  have em : ∀ p, p ∈ left.eraseIdx k → p ∈ left := fun p hp => List.mem_of_mem_eraseIdx hp
  have shc : ∀ p, p ∈ left ∨ p ∈ steps → Cl w (clr col q p).1 ∧ Cl rows.length (clr col q p).2 := fun p hp => by
    obtain ⟨a, b⟩ := h.sh p hp
    exact ⟨mix_cl a.1 q1.1, mix_cl b.1 q2.1⟩
  have cz : ∀ p, p ∈ left ∨ p ∈ steps → ∀ c, c < col → at0 (clr col q p).1 c = at0 p.1 c := fun p hp c hc => by
    obtain ⟨a, b⟩ := h.sh p hp
    show at0 (mix p.1 _ q.1) c = _
    rw [mix_at (by rw [a.1]; omega) (by rw [q1.1]; omega), qz c hc]
    have := cell_at (k := c) a
    simp only [Int.mul_zero, Int.add_zero]
    omega
  have cc : ∀ p, p ∈ left ∨ p ∈ steps → at0 (clr col q p).1 col = 0 := fun p hp => by
    obtain ⟨a, b⟩ := h.sh p hp
    show at0 (mix p.1 _ q.1) col = _
    rw [mix_at (by rw [a.1]; omega) (by rw [q1.1]; omega), qc]
    omega
  refine ⟨fun p hp => ?_, fun x g hx hg hyp => ?_, fun p hp c hc => ?_, by simp [h.pl], fun j c hj => ?_, ?_⟩
  · rcases hp with hp | hp
    · obtain ⟨p', hp', rfl⟩ := List.mem_map.mp hp
      exact shc p' (.inl (em _ hp'))
    · rcases List.mem_append.mp hp with hp | hp
      · obtain ⟨p', hp', rfl⟩ := List.mem_map.mp hp
        exact shc p' (.inr hp')
      · rw [List.mem_singleton.mp hp]; exact ⟨q1, q2⟩
  · have hqq : M (dot q.1 x) (dot q.2 g) := hyp q (.inr (List.mem_append.mpr (.inr (List.mem_singleton.mpr rfl))))
    have back : ∀ p, p ∈ left ∨ p ∈ steps → M (dot (clr col q p).1 x) (dot (clr col q p).2 g) → M (dot p.1 x) (dot p.2 g) := fun p hp hm => by
      obtain ⟨a, b⟩ := h.sh p hp
      have e1 := dot_mix p.1 q.1 x (257 - at0 p.1 col) (by rw [a.1, q1.1])
      have e2 := dot_mix p.2 q.2 g (257 - at0 p.1 col) (by rw [b.1, q2.1])
      have e3 := (e1.symm.trans hm).trans e2
      have e4 := M.mul (257 - at0 p.1 col) hqq
      have e5 := e3.sub e4
      simpa using e5
    refine h.snd x g hx hg fun p hp => ?_
    by_cases e : p = p0
    · subst e
      -- q is its multiple
      have e1 : M (dot q.1 x) (t * dot p.1 x) := by rw [← hq]; exact dot_scl p.1 x t
      have e2 : M (dot q.2 g) (t * dot p.2 g) := by rw [← hq]; exact dot_scl p.2 g t
      have e3 := (e1.symm.trans hqq).trans e2
      have e4 := M.mul (at0 p.1 col) e3
      have un : ∀ z : Int, M (at0 p.1 col * (t * z)) z := fun z => by
        have := M.mul z (M.of (a := at0 p.1 col * t) (b := 1) (by rw [i1]; rfl))
        rw [Int.mul_one, Int.mul_comm z, Int.mul_assoc] at this
        exact this
      exact ((un _).symm.trans e4).trans (un _)
    · refine back p hp (hyp _ ?_)
      rcases hp with hp | hp
      · left
        refine List.mem_map.mpr ⟨p, ?_, rfl⟩
        rw [List.mem_eraseIdx_iff_getElem?]
        obtain ⟨i, hi⟩ := List.mem_iff_getElem?.mp hp
        refine ⟨i, fun z => e ?_, hi⟩
        rw [z, hk] at hi
        exact (Option.some.inj hi).symm
      · right
        exact List.mem_append.mpr (.inl (List.mem_map.mpr ⟨p, hp, rfl⟩))
  · obtain ⟨p', hp', rfl⟩ := List.mem_map.mp hp
    have hm := em _ hp'
    by_cases e : c = col
    · subst e; exact cc p' (.inl hm)
    · rw [cz p' (.inl hm) c (by omega)]
      exact h.zL p' hm c (by omega)
  · have hsl : (steps.map (clr col q)).length = steps.length := by simp
    by_cases hj' : j < piv.length
    · rw [List.getElem?_append_left hj'] at hj
      obtain ⟨a, b, d⟩ := h.pv j c hj
      refine ⟨by omega, fun p hp c' hc' => ?_, fun i p hp => ?_⟩
      · rw [List.getElem?_append_left (by rw [hsl, ← h.pl]; exact hj'), List.getElem?_map] at hp
        obtain ⟨p', hp', rfl⟩ := Option.map_eq_some_iff.mp hp
        rw [cz p' (.inr (List.mem_of_getElem? hp')) c' (by omega)]
        exact b p' hp' c' hc'
      · by_cases hi : i < steps.length
        · rw [List.getElem?_append_left (by rw [hsl]; exact hi), List.getElem?_map] at hp
          obtain ⟨p', hp', rfl⟩ := Option.map_eq_some_iff.mp hp
          rw [cz p' (.inr (List.mem_of_getElem? hp')) c a]
          exact d i p' hp'
        · rw [List.getElem?_append_right (by rw [hsl]; omega), hsl] at hp
          have : i - steps.length = 0 := by
            cases z : i - steps.length with
            | zero => rfl
            | succ n => rw [z] at hp; cases hp
          rw [this] at hp
          cases hp
          rw [qz c a, if_neg (by have := h.pl; omega)]
    · rw [List.getElem?_append_right (by omega)] at hj
      have hj0 : j - piv.length = 0 := by
        cases z : j - piv.length with
        | zero => rfl
        | succ n => rw [z] at hj; cases hj
      rw [hj0] at hj
      cases hj
      have hjl : j = steps.length := by have := h.pl; omega
      refine ⟨by omega, fun p hp c' hc' => ?_, fun i p hp => ?_⟩
      · rw [List.getElem?_append_right (by rw [hsl]; omega), hsl, hjl, Nat.sub_self] at hp
        cases hp
        exact qz c' hc'
      · by_cases hi : i < steps.length
        · rw [List.getElem?_append_left (by rw [hsl]; exact hi), List.getElem?_map] at hp
          obtain ⟨p', hp', rfl⟩ := Option.map_eq_some_iff.mp hp
          rw [cc p' (.inr (List.mem_of_getElem? hp')), if_neg (by omega)]
        · rw [List.getElem?_append_right (by rw [hsl]; omega), hsl] at hp
          have : i - steps.length = 0 := by
            cases z : i - steps.length with
            | zero => rfl
            | succ n => rw [z] at hp; cases hp
          rw [this] at hp
          cases hp
          rw [qc, if_pos (by omega)]
  · have hkl : k < left.length := (List.getElem?_eq_some_iff.mp hk).1
    have := h.cnt
    simp [List.length_eraseIdx, hkl]
    omega
end K04

set_option Elab.async false
set_option linter.all false
set_option maxRecDepth 100000
namespace K04
def start (n : Nat) (rows : List (List Int)) : List P := rows.zipIdx.map fun q => (q.1, unitL n q.2)
theorem start_get {n : Nat} {rows : List (List Int)} {p : P} (h : p ∈ start n rows) : ∃ (i : Nat) (r : List Int), rows[i]? = some r ∧ p = (r, unitL n i) := by
  obtain ⟨⟨r, i⟩, hm, rfl⟩ := List.mem_map.mp h
  exact ⟨i, r, by simpa using (List.mem_zipIdx_iff_getElem?.mp hm), rfl⟩
theorem start_mem {n i : Nat} {rows : List (List Int)} {r : List Int} (h : rows[i]? = some r) : (r, unitL n i) ∈ start n rows :=
  List.mem_map.mpr ⟨(r, i), List.mem_zipIdx_iff_getElem?.mpr h, rfl⟩
theorem GI.init {rows : List (List Int)} {w : Nat} (hr : ∀ r ∈ rows, Cl w r) : GI rows w 0 (start rows.length rows) [] [] where
  sh := fun p hp => by
    rcases hp with hp | hp
    · obtain ⟨i, r, h, rfl⟩ := start_get hp
      exact ⟨hr r (List.mem_of_getElem? h), unitL_cl⟩
    · simp at hp
  snd := fun x g hx hg hyp i r h => by
    have := hyp _ (.inl (start_mem (n := rows.length) h))
    simp only at this
    rwa [dot_unit (List.getElem?_eq_some_iff.mp h).1 hg] at this
  zL := fun p hp c hc => by omega
  pl := rfl
  pv := fun j c h => by simp at h
  cnt := by simp [start]
theorem GI.apart {rows : List (List Int)} {w col : Nat} {left steps : List P} {piv : List Nat} (h : GI rows w col left steps piv) {i j c : Nat} (hi : piv[i]? = some c) (hj : piv[j]? = some c) : i = j := by
  have li : i < steps.length := by rw [← h.pl]; exact (List.getElem?_eq_some_iff.mp hi).1
  have a := (h.pv i c hi).2.2 i _ (List.getElem?_eq_getElem li)
  have b := (h.pv j c hj).2.2 i _ (List.getElem?_eq_getElem li)
  rw [if_pos rfl] at a
  by_cases e : i = j
  · exact e
  · rw [if_neg e] at b; omega
/-- the solution, as it grows -/
structure Ok1 (w : Nat) (steps : List P) (piv : List Nat) (g : List Int) (k : Nat) (x : List Int) : Prop where
  cl : Cl w x
  done : ∀ (j : Nat) (p : P), steps[j]? = some p → dot p.1 x = if j < k then prod p.2 g else 0
  free : ∀ (j c : Nat), piv[j]? = some c → k ≤ j → at0 x c = 0
theorem at0_rep (n c : Nat) : at0 (List.replicate n (0 : Int)) c = 0 := by
  by_cases h : c < n <;> simp [at0, List.getD_eq_getElem?_getD, List.getElem?_replicate, h]
theorem Ok1.init {w : Nat} {steps : List P} {piv : List Nat} {g : List Int} : Ok1 w steps piv g 0 (List.replicate w 0) where
  cl := ⟨by simp, fun x hx => by rw [List.eq_of_mem_replicate hx]; omega⟩
  done := fun j p _ => by rw [dot_zero, if_neg (by omega)]
  free := fun j c _ _ => at0_rep _ _
theorem prod_cell {a b : List Int} : 0 ≤ prod a b ∧ prod a b < 257 := cells_mod _
theorem at0_set {x : List Int} {c d : Nat} {v : Int} (h : c ≠ d) : at0 (x.set c v) d = at0 x d := by
  simp [at0, List.getD_eq_getElem?_getD, List.getElem?_set_ne h]
theorem Ok1.next {rows : List (List Int)} {w col : Nat} {left steps : List P} {piv : List Nat} {g x : List Int} {k c : Nat} {p : P} (h : GI rows w col left steps piv) (hw : col ≤ w) (o : Ok1 w steps piv g k x) (hc : piv[k]? = some c) (hp : steps[k]? = some p) :
    Ok1 w steps piv g (k + 1) (x.set c (prod p.2 g)) where
  cl := ⟨by simp [o.cl.1], fun z hz => by
    rcases List.mem_or_eq_of_mem_set hz with hz | rfl
    · exact o.cl.2 z hz
    · exact prod_cell⟩
  done := fun j q hq => by
    obtain ⟨a, b, d⟩ := h.pv k c hc
    have sq := (h.sh q (.inr (List.mem_of_getElem? hq))).1
    rw [dot_set _ _ _ _ (by rw [o.cl.1]; omega) (by rw [sq.1, o.cl.1]), o.done j q hq, d j q hq, o.free k c hc (Nat.le_refl _)]
    by_cases e : j = k
    · subst e
      rw [hp] at hq
      cases hq
      rw [if_neg (by omega), if_pos rfl, if_pos (by omega)]
      omega
    · rw [if_neg e]
      by_cases e2 : j < k
      · rw [if_pos e2, if_pos (by omega)]; omega
      · rw [if_neg e2, if_neg (by omega)]; omega
  free := fun j d hd hj => by
    have : c ≠ d := fun z => by
      subst z
      have := h.apart hc hd
      omega
    rw [at0_set this]
    exact o.free j d hd (by omega)
theorem Ok1.sol {rows : List (List Int)} {w : Nat} {left steps : List P} {piv : List Nat} {g x : List Int} (h : GI rows w w left steps piv) (o : Ok1 w steps piv g steps.length x) (hg : g.length = rows.length) (hrest : ∀ p ∈ left, prod p.2 g = 0) :
    ∀ (i : Nat) (r : List Int), rows[i]? = some r → M (dot r x) (at0 g i) := by
  refine h.snd x g o.cl.1 hg fun p hp => ?_
  rcases hp with hp | hp
  · rw [zero_dot p.1 x fun c hc => h.zL p hp c (by rw [(h.sh p (.inl hp)).1.1] at hc; exact hc)]
    have := hrest p hp
    exact M.of (by unfold prod at this; rw [this]; rfl)
  · obtain ⟨j, hj⟩ := List.mem_iff_getElem?.mp hp
    rw [o.done j p hj, if_pos (List.getElem?_eq_some_iff.mp hj).1]
    exact M.mod
/-! ### a solution bars reasons -/
def colOf (rows : List (List Int)) (c : Nat) : List Int := rows.map fun r => at0 r c
theorem dot_split : ∀ (y : List Int) (rows : List (List Int)) (x0 : Int) (xs : List Int), (∀ r ∈ rows, r.length = xs.length + 1) →
    dot y (rows.map fun r => dot r (x0 :: xs)) = x0 * dot (colOf rows 0) y + dot y ((rows.map List.tail).map fun r => dot r xs)
  | [], rows, x0, xs, _ => by simp [dot_nil, dot_nil']
  | y :: ys, [], x0, xs, _ => by simp [colOf, dot_nil, dot_nil']
  | y :: ys, [] :: rows, x0, xs, h => by
    have := h [] List.mem_cons_self
    simp at this
  | y :: ys, (a :: r) :: rows, x0, xs, h => by
    have ih := dot_split ys rows x0 xs fun r hr => h r (List.mem_cons_of_mem _ hr)
    have e : colOf ((a :: r) :: rows) 0 = a :: colOf rows 0 := rfl
    simp only [List.map_cons, List.tail_cons]
    rw [dot_cons, dot_cons, dot_cons, e, dot_cons, ih, Int.mul_add, Int.mul_add]
    have e2 : y * (a * x0) = x0 * (a * y) := by rw [Int.mul_comm a x0, Int.mul_left_comm, Int.mul_comm y a]
    omega
theorem comb_zero : ∀ (x : List Int) (y : List Int) (rows : List (List Int)), (∀ r ∈ rows, r.length = x.length) → (∀ c, c < x.length → M (dot (colOf rows c) y) 0) → M (dot y (rows.map fun r => dot r x)) 0
  | [], y, rows, hr, _ => by
    have : (rows.map fun r => dot r []) = List.replicate rows.length 0 := by
      refine List.ext_getElem (by simp) fun i h1 h2 => by simp [dot_nil']
    rw [this, dot_zero]
    exact M.rfl'
  | x0 :: xs, y, rows, hr, hc => by
    rw [dot_split y rows x0 xs (by simpa using hr)]
    have ih := comb_zero xs y (rows.map List.tail) (fun r hr' => by
      obtain ⟨r', h', rfl⟩ := List.mem_map.mp hr'
      have := hr r' h'
      simp at this ⊢
      omega) fun c hc' => by
        have := hc (c + 1) (by simpa using hc')
        have e : colOf (rows.map List.tail) c = colOf rows (c + 1) := by
          unfold colOf
          rw [List.map_map]
          refine List.map_congr_left fun r _ => ?_
          cases r <;> simp [at0]
        rw [e]; exact this
    have h0 := M.mul x0 (hc 0 (by simp))
    have := h0.add ih
    simpa using this
theorem dot_alike : ∀ (y a b : List Int), a.length = b.length → (∀ i, M (at0 a i) (at0 b i)) → M (dot y a) (dot y b)
  | [], a, b, _, _ => by rw [dot_nil, dot_nil]; exact M.rfl'
  | y :: ys, [], [], _, _ => M.rfl'
  | y :: ys, a :: as, b :: bs, h, k => by
    rw [dot_cons, dot_cons]
    refine M.add (M.mul y ?_) (dot_alike ys as bs (by simpa using h) fun i => ?_)
    · simpa [at0] using k 0
    · simpa [at0] using k (i + 1)
  | y :: ys, [], b :: bs, h, _ => by simp at h
  | y :: ys, a :: as, [], h, _ => by simp at h
/-- no reasons where there is a solution -/
theorem no_reasons {rows : List (List Int)} {x y g : List Int} (hr : ∀ r ∈ rows, r.length = x.length) (hg : g.length = rows.length) (hx : ∀ (i : Nat) (r : List Int), rows[i]? = some r → M (dot r x) (at0 g i)) (hy : ∀ c, c < x.length → prod (colOf rows c) y = 0) : prod y g = 0 := by
  have h1 := comb_zero x y rows hr fun c hc => M.of (by have := hy c hc; unfold prod at this; rw [this]; rfl)
  have h2 : M (dot y (rows.map fun r => dot r x)) (dot y g) := dot_alike y _ _ (by simp [hg]) fun i => by
    by_cases hi : i < rows.length
    · have := hx i rows[i] (List.getElem?_eq_getElem hi)
      rwa [show at0 (rows.map fun r => dot r x) i = dot rows[i] x by simp [at0, List.getD_eq_getElem?_getD, hi]]
    · have e1 : at0 (rows.map fun r => dot r x) i = 0 := by simp [at0, List.getD_eq_getElem?_getD, List.getElem?_eq_none (Nat.le_of_not_lt hi)]
      have e2 : at0 g i = 0 := by simp [at0, List.getD_eq_getElem?_getD, List.getElem?_eq_none (show g.length ≤ i by omega)]
      rw [e1, e2]
      exact M.rfl'
  have := (h2.symm.trans h1).to
  unfold prod
  rw [this]
  rfl
end K04

set_option Elab.async false
set_option linter.all false
set_option maxRecDepth 100000
namespace Kw
open PySem PySem.Spec PyProof.Rows L2
/-! ### more for the plain functions -/
theorem lcL_map {α : Type} {e : α → D} {me : EM} {δ : Sv} {μ : Mem} {f : α → D} {i : Nat} : ∀ (xs : List α), (∀ a ∈ xs, me (δ.set i (some (e a))) μ = .ok (f a) μ) → lcL (gNm i) tYesM me δ (xs.map e) μ = .ok (xs.map f) μ
  | [], _ => rfl
  | a :: xs, h => by
    have ih := lcL_map xs fun b hb => h b (List.mem_cons_of_mem _ hb)
    have h0 := h a List.mem_cons_self
    simp only [List.map_cons, lcL, gNm_run, tYes_run, h0, ih]
theorem lcL_filt {α : Type} {e : α → D} {mt : TM} {me : EM} {δ : Sv} {μ : Mem} {t : α → Bool} {f : α → D} {i : Nat} : ∀ (xs : List α), (∀ a ∈ xs, mt (δ.set i (some (e a))) μ = .ok (t a) μ ∧ (t a = true → me (δ.set i (some (e a))) μ = .ok (f a) μ)) → lcL (gNm i) mt me δ (xs.map e) μ = .ok ((xs.filter t).map f) μ
  | [], _ => rfl
  | a :: xs, h => by
    have ih := lcL_filt xs fun b hb => h b (List.mem_cons_of_mem _ hb)
    obtain ⟨h0, h1⟩ := h a List.mem_cons_self
    cases ht : t a with
    | true =>
      have h1 := h1 ht
      simp only [List.map_cons, lcL, gNm_run, h0, ht, h1, ih, List.filter_cons, if_true]
    | false => simp only [List.map_cons, lcL, gNm_run, h0, ht, ih, List.filter_cons, if_neg Bool.false_ne_true]
theorem lcL_zip2 {α β : Type} {e1 : α → D} {e2 : β → D} {me : EM} {δ : Sv} {μ : Mem} {f : α → β → D} {i j : Nat} : ∀ (xs : List α) (ys : List β), (∀ a ∈ xs, ∀ b ∈ ys, me ((δ.set i (some (e1 a))).set j (some (e2 b))) μ = .ok (f a b) μ) →
    lcL (gSeq 2 (gsCons (gNm i) (gsCons (gNm j) gsNil))) tYesM me δ (zipD (xs.map e1) (ys.map e2)) μ = .ok (List.zipWith f xs ys) μ
  | [], ys, _ => rfl
  | a :: xs, [], _ => rfl
  | a :: xs, b :: ys, h => by
    have ih := lcL_zip2 xs ys fun a' ha b' hb => h a' (List.mem_cons_of_mem _ ha) b' (List.mem_cons_of_mem _ hb)
    have h0 := h a List.mem_cons_self b List.mem_cons_self
    have g0 : gSeq 2 (gsCons (gNm i) (gsCons (gNm j) gsNil)) (.tup [e1 a, e2 b]) δ μ = .nx ((δ.set i (some (e1 a))).set j (some (e2 b))) μ := rfl
    simp only [List.map_cons, zipD, lcL, g0, tYes_run, h0, ih, List.zipWith_cons_cons]
theorem loopS_at {g : GM} {b : SM} {I : Nat → Sv → Mem → Prop} : ∀ (items : List D) (k0 : Nat) {δ : Sv} {μ : Mem}, (∀ k d δ μ, items[k]? = some d → I (k0 + k) δ μ → ∃ δ1 δ2 μ1 μ2, g d δ μ = .nx δ1 μ1 ∧ (b δ1 μ1 = .nx δ2 μ2 ∨ b δ1 μ1 = .ct δ2 μ2) ∧ I (k0 + k + 1) δ2 μ2) → I k0 δ μ →
    ∃ δ' μ', loopS g b items δ μ = .nx δ' μ' ∧ I (k0 + items.length) δ' μ'
  | [], k0, δ, μ, _, hi => ⟨δ, μ, rfl, hi⟩
  | d :: ds, k0, δ, μ, h, hi => by
    obtain ⟨δ1, δ2, μ1, μ2, h1, h2, h3⟩ := h 0 d δ μ rfl hi
    obtain ⟨δ', μ', h4, h5⟩ := loopS_at ds (k0 + 1) (fun k e δ μ hk hI => by
      have := h (k + 1) e δ μ (by simpa using hk) (by rw [show k0 + (k + 1) = k0 + 1 + k by omega]; exact hI)
      rw [show k0 + (k + 1) + 1 = k0 + 1 + k + 1 by omega] at this
      exact this) h3
    refine ⟨δ', μ', ?_, by rw [List.length_cons, show k0 + (ds.length + 1) = k0 + 1 + ds.length by omega]; exact h5⟩
    unfold loopS
    rw [h1]
    simp only
    rcases h2 with h2 | h2 <;> rw [h2] <;> exact h4
/-- a comprehension over a place, where nothing changes -/
theorem lcN_map {α : Type} {e : Nat → α → D} {nx : Nx} {g : GM} {mt : TM} {me : EM} {δ : Sv} {μ : Mem} {t : Nat → α → Bool} {f : Nat → α → D} {n : Nat} (he : nx n μ = some none) : ∀ (xs : List α) (k m : Nat), k + xs.length = n → xs.length < m → (∀ j a, xs[j]? = some a → nx (k + j) μ = some (some (e (k + j) a)) ∧ ∃ δ', g (e (k + j) a) δ μ = .nx δ' μ ∧ mt δ' μ = .ok (t (k + j) a) μ ∧ (t (k + j) a = true → me δ' μ = .ok (f (k + j) a) μ)) →
    lcN nx g mt me δ m k μ = .ok (((xs.zipIdx k).filter fun p => t p.2 p.1).map fun p => f p.2 p.1) μ
  | [], k, m, h, hm, _ => by
    cases m with
    | zero => simp at hm
    | succ m =>
      have : k = n := by simpa using h
      subst this
      simp [lcN, he]
  | a :: xs, k, m, h, hm, hs => by
    cases m with
    | zero => simp at hm
    | succ m =>
      obtain ⟨h1, δ', h2, h3, h4⟩ := hs 0 a rfl
      rw [Nat.add_zero] at h1 h2 h3 h4
      have ih := lcN_map he xs (k + 1) m (by simp at h; omega) (by simp at hm; omega) fun j b hj => by
        have := hs (j + 1) b (by simpa using hj)
        rw [show k + (j + 1) = k + 1 + j by omega] at this
        exact this
      unfold lcN
      rw [h1]
      simp only
      rw [h2]
      simp only
      rw [h3]
      cases ht : t k a with
      | true =>
        have h4 := h4 ht
        simp only
        rw [h4]
        simp only
        rw [ih]
        simp [List.zipIdx_cons, List.filter_cons, ht]
      | false =>
        simp only
        rw [ih]
        simp [List.zipIdx_cons, List.filter_cons, ht]
theorem rng_ok {j : Int} (h0 : 0 ≤ j) (h : j ≤ 1000000) : -4611686018427387904 ≤ j ∧ j < 4611686018427387904 := ⟨by omega, by omega⟩
theorem range1_j {mr : AM} {δ : Sv} {μ μ1 : Mem} {j : Int} (h : mr δ μ = .ok [.int j] μ1) (h0 : 0 ≤ j) (hn : j ≤ 1000000) : iRange1 mr δ μ = .ok ((List.range j.toNat).map fun (k : Nat) => .int (k : Int)) μ1 := by
  unfold iRange1
  rw [h]
  simp only [bind_ok]
  rw [if_pos (rng_ok h0 hn)]
theorem range1_run {mr : AM} {δ : Sv} {μ μ1 : Mem} {n : Nat} (h : mr δ μ = .ok [.int (n : Int)] μ1) (hn : (n : Int) ≤ 1000000) : iRange1 mr δ μ = .ok ((List.range n).map fun (k : Nat) => .int (k : Int)) μ1 := by
  have := range1_j h (Int.natCast_nonneg n) hn
  rwa [Int.toNat_natCast] at this
theorem loc_ints (sc : Bool) (k : Nat) : ∀ l : List Int, locBs sc k (l.map D.int) = true
  | [] => rfl
  | a :: l => by simp [locBs, locB, loc_ints sc k l]
theorem loc_map {α : Type} {e : α → D} {sc : Bool} {k : Nat} : ∀ l : List α, (∀ a ∈ l, locB sc k (e a) = true) → locBs sc k (l.map e) = true
  | [], _ => rfl
  | a :: l, h => by simp [locBs, h a List.mem_cons_self, loc_map l fun b hb => h b (List.mem_cons_of_mem _ hb)]
theorem ix_nat {xs : List D} {μ : Mem} {k : Nat} {x : D} (h : seqOf μ x = some xs) : gIx x (.int (k : Int)) μ = xs[k]? := by
  unfold gIx
  simp only [h]
  unfold atI ixN
  rw [if_pos (by omega)]
  by_cases hk : k < xs.length
  · rw [if_pos (by omega)]
    simp
  · rw [if_neg (by omega), List.getElem?_eq_none (by omega)]
    rfl
/-- a slot's value -/
def vOf (o : Option (Option D)) (μ : Mem) : Out D := match o with
  | some (some d) => match d with
    | .lam => .stuck
    | .exc _ _ => .stuck
    | d => .ok d μ
  | _ => .stuck
theorem eVar_run {i : Nat} {δ : Sv} {μ : Mem} : eVar i δ μ = vOf δ[i]? μ := nr rfl
section
variable {μ : Mem}
@[simp] theorem vOf_int {i : Int} : vOf (some (some (.int i))) μ = .ok (.int i) μ := nr rfl
@[simp] theorem vOf_non : vOf (some (some .non)) μ = .ok .non μ := nr rfl
@[simp] theorem vOf_bl {b : Bool} : vOf (some (some (.bl b))) μ = .ok (.bl b) μ := nr rfl
@[simp] theorem vOf_str {x : Str} : vOf (some (some (.str x))) μ = .ok (.str x) μ := nr rfl
@[simp] theorem vOf_tup {xs : List D} : vOf (some (some (.tup xs))) μ = .ok (.tup xs) μ := nr rfl
@[simp] theorem vOf_lst {xs : List D} : vOf (some (some (.lst xs))) μ = .ok (.lst xs) μ := nr rfl
@[simp] theorem vOf_scr {xs : List D} : vOf (some (some (.scr xs))) μ = .ok (.scr xs) μ := nr rfl
@[simp] theorem vOf_loc {l : Nat} : vOf (some (some (.loc l))) μ = .ok (.loc l) μ := nr rfl
end
theorem same_repr (b : Bool) (μ : Mem) : ∃ s, gRepr [.lst [.bl b, .bl b]] μ = some (.str s) ∧ gNe (.str s) (.str s) μ = some (.bl false) := by
  cases b
  · exact ⟨(PyData.list [.bool false, .bool false]).shown, rfl, by kernel_rfl⟩
  · exact ⟨(PyData.list [.bool true, .bool true]).shown, rfl, by kernel_rfl⟩
end Kw

set_option Elab.async false
set_option linter.all false
set_option maxRecDepth 100000
/-! what the program's words tell -/
namespace K04
open PySem PySem.Spec PyProof.Rows L2 Kw
abbrev tI (r : List Int) : D := .tup (r.map D.int)
abbrev enc (p : P) : D := .tup [tI p.1, tI p.2]
theorem loc_tI (sc : Bool) (k : Nat) (r : List Int) : locB sc k (tI r) = true := by simp [locB, loc_ints]
theorem loc_enc (sc : Bool) (k : Nat) (p : P) : locB sc k (enc p) = true := by simp [locB, locBs, loc_ints]
/-- the entries of values that are asked about -/
inductive Ent : D → Prop
  | int (i : Int) : Ent (.int i)
  | non : Ent .non
  | bl (b : Bool) : Ent (.bl b)
  | str : Ent (.str "0")
  | tup : Ent (.tup [.int 0])
theorem Ent.loc {d : D} (h : Ent d) (sc : Bool) (k : Nat) : locB sc k d = true := by cases h <;> rfl
theorem Ent.var {d : D} (h : Ent d) {δ : Sv} {i : Nat} {μ : Mem} (hd : δ[i]? = some (some d)) : eVar i δ μ = .ok d μ := by
  unfold eVar
  rw [hd]
  cases h <;> rfl
def cellB : D → Bool
  | .int i => decide (0 ≤ i) && decide (i < 257)
  | _ => false
def intB : D → Bool
  | .int _ => true
  | _ => false
theorem is_integer_ok {d : D} (h : Ent d) : f_is_integer [d] [] = .ok (.bl (intB d)) [] := by
  cases h <;> rfl
theorem is_number_ok {d : D} (h : Ent d) : f_is_number [d] [] = .ok (.bl (match d with
    | .int i => decide (0 ≤ i)
    | _ => false)) [] := by
  have hc := callP_ok (μ := []) (is_integer_ok h) (by simp [locBs, h.loc]) rfl
  unfold f_is_number bodyM m_is_number
  cases h <;> simp [eVar, hc, intB]
theorem is_below_ok {d : D} (h : Ent d) : f_is_below [d, .int 257] [] = .ok (.bl (cellB d)) [] := by
  have hc := callP_ok (μ := []) (is_number_ok h) (by simp [locBs, h.loc]) rfl
  unfold f_is_below bodyM m_is_below
  cases h with
  | int i => by_cases h0 : 0 ≤ i <;> simp [eVar, hc, cellB, h0]
  | _ => simp [eVar, hc, cellB]
theorem below_c {d : D} (h : Ent d) (μ : Mem) : callP f_is_below [d, .int 257] μ = .ok (.bl (cellB d)) μ := callP_ok (is_below_ok h) (by simp [locBs, h.loc]; rfl) rfl
/-- no rows -/
inductive NoS : D → Prop
  | non : NoS .non
  | int (i : Int) : NoS (.int i)
  | str (x : Str) : NoS (.str x)
/-- values that are asked about: a row of entries, or none -/
inductive Kd : D → Option (List D) → Prop
  | tup {es : List D} (h : ∀ e ∈ es, Ent e) (hl : es.length ≤ 1000) : Kd (.tup es) (some es)
  | lst {es : List D} (h : ∀ e ∈ es, Ent e) (hl : es.length ≤ 1000) : Kd (.lst es) (some es)
  | no {d : D} (h : NoS d) : Kd d none
theorem Kd.loc {d : D} {o : Option (List D)} (h : Kd d o) (sc : Bool) (k : Nat) : locB sc k d = true := by
  cases h with
  | @tup es h hl =>
    have := loc_map (e := id) (sc := sc) (k := k) es fun a ha => (h a ha).loc sc k
    rw [List.map_id] at this
    exact this
  | @lst es h hl =>
    have := loc_map (e := id) (sc := sc) (k := k) es fun a ha => (h a ha).loc sc k
    rw [List.map_id] at this
    exact this
  | no h => cases h <;> rfl
theorem Kd.var {d : D} {o : Option (List D)} (h : Kd d o) {δ : Sv} {i : Nat} {μ : Mem} (hd : δ[i]? = some (some d)) : eVar i δ μ = .ok d μ := by
  cases h with
  | no h => unfold eVar; rw [hd]; cases h <;> rfl
  | _ => unfold eVar; rw [hd]
theorem is_seq_ok {d : D} {o : Option (List D)} (h : Kd d o) : f_is_sequence [d] [] = .ok (.bl o.isSome) [] := by
  cases h with
  | tup h hl => rfl
  | lst h hl => rfl
  | no h => cases h <;> rfl
theorem seq_c {d : D} {o : Option (List D)} (h : Kd d o) (μ : Mem) : callP f_is_sequence [d] μ = .ok (.bl o.isSome) μ := callP_ok (is_seq_ok h) (by simp [locBs, h.loc]) rfl
theorem all_map (es : List D) (f : D → Bool) : gAll [.lst (es.map fun e => D.bl (f e))] [] = some (.bl (es.all f)) := by
  simp only [gAll, lstOf_lst, boolsOf_map, List.all_map]
  rfl
theorem all_map' (es : List D) (f : D → Bool) (μ : Mem) : gAll [.lst (es.map fun e => D.bl (f e))] μ = some (.bl (es.all f)) := by
  simp only [gAll, lstOf_lst, boolsOf_map, List.all_map]
  rfl
/-- [is_below(cell, CELL) for cell in value] -/
theorem cells_lc {es : List D} (h : ∀ e ∈ es, Ent e) {δ : Sv} {i : Nat} (hi : i < δ.length) (μ : Mem) : lcL (gNm i) tYesM (eCallP f_is_below (aCons (eVar i) (aCons (eC d_CELL) aNil))) δ es μ = .ok (es.map fun e => D.bl (cellB e)) μ := by
  have := lcL_map (e := id) (f := fun e => D.bl (cellB e)) (me := eCallP f_is_below (aCons (eVar i) (aCons (eC d_CELL) aNil))) (δ := δ) (μ := μ) (i := i) es fun a ha => by
    have hv : eVar i (δ.set i (some a)) μ = .ok a μ := (h a ha).var (List.getElem?_set_self hi)
    simp [hv, d_CELL, below_c (h a ha)]
  rwa [List.map_id] at this
def rowB (n : Nat) : Option (List D) → Bool
  | some es => decide (es.length = n) && es.all cellB
  | none => false
theorem is_row_of_ok {d : D} {o : Option (List D)} (h : Kd d o) (n : Nat) : f_is_row_of [d, .int (n : Int)] [] = .ok (.bl (rowB n o)) [] := by
  have hs := seq_c h []
  have hv : ∀ δ μ, eVar 0 (some d :: δ) μ = .ok d μ := fun δ μ => h.var rfl
  unfold f_is_row_of bodyM m_is_row_of
  cases h with
  | @tup es h hl =>
    have c := cells_lc h (δ := [some (.tup es), some (.int (n : Int)), none]) (i := 2) (by simp) []
    have sz : (es.map fun e => D.bl (cellB e)).length ≤ sizeLine := szN (by simp; omega)
    by_cases hn : es.length = n
    · subst hn
      simp [hv, hs, eVar, wipeD, c, sz, all_map', rowB]
      rw [if_pos (by simpa using sz)]
      simp [all_map']
    · have : ((es.length : Int) == (n : Int)) = false := by simpa using fun z => hn (by omega)
      simp [hv, hs, eVar, rowB, hn, this]
  | @lst es h hl =>
    have c := cells_lc h (δ := [some (.lst es), some (.int (n : Int)), none]) (i := 2) (by simp) []
    have sz : (es.map fun e => D.bl (cellB e)).length ≤ sizeLine := szN (by simp; omega)
    by_cases hn : es.length = n
    · subst hn
      simp [hv, hs, eVar, wipeD, c, sz, all_map', rowB]
      rw [if_pos (by simpa using sz)]
      simp [all_map']
    · have : ((es.length : Int) == (n : Int)) = false := by simpa using fun z => hn (by omega)
      simp [hv, hs, eVar, rowB, hn, this]
  | no h => simp [hv, hs, rowB]
end K04

set_option Elab.async false
set_option linter.all false
set_option maxRecDepth 100000
namespace K04
open PySem PySem.Spec PyProof.Rows L2 Kw
/-! ### entries as data -/
theorem Ent.py {d : D} (h : Ent d) (f : Nat → Option PyData) : ∃ p, pyW f d = some p ∧ p.canLay0 = true ∧ p.depth ≤ 2 := by
  cases h with
  | int i => exact ⟨_, rfl, rfl, by simp [PyData.depth]⟩
  | non => exact ⟨_, rfl, rfl, by simp [PyData.depth]⟩
  | bl b => exact ⟨_, rfl, rfl, by simp [PyData.depth]⟩
  | str => exact ⟨_, rfl, by decide +kernel, by simp [PyData.depth]⟩
  | tup => exact ⟨_, rfl, rfl, by decide⟩
theorem ents_py (f : Nat → Option PyData) : ∀ es : List D, (∀ e ∈ es, Ent e) → ∃ ps, pyWs f es = some ps ∧ PyData.canLayAll0 ps = true ∧ PyData.depthAll ps ≤ 2 ∧ ps.isEmpty = es.isEmpty
  | [], _ => ⟨[], rfl, rfl, by decide, rfl⟩
  | e :: es, h => by
    obtain ⟨p, h1, h2, h3⟩ := (h e List.mem_cons_self).py f
    obtain ⟨ps, k1, k2, k3, _⟩ := ents_py f es fun a ha => h a (List.mem_cons_of_mem _ ha)
    refine ⟨p :: ps, by simp only [pyWs, h1, k1], by simp only [PyData.canLayAll0, h2, k2, Bool.and_self], by simp only [PyData.depthAll]; omega, rfl⟩
theorem eq_nil {es : List D} (h : ∀ e ∈ es, Ent e) (μ : Mem) : gEq (.lst es) (.lst []) μ = some (.bl es.isEmpty) := by
  obtain ⟨ps, k1, k2, k3, k4⟩ := ents_py (pyL μ 4) es h
  unfold gEq eqD pyOf
  simp only [pyW, k1, pyWs]
  have s1 : SeqAt.shaped (.list ps) = true := by
    unfold SeqAt.shaped
    rw [Bool.and_eq_true]
    refine ⟨by simpa only [PyData.canLay0] using k2, ?_⟩
    rw [decide_eq_true_eq]
    simp only [PyData.depth]
    omega
  rw [if_pos (by rw [s1]; rfl), ← k4]
  cases ps <;> rfl
/-! ### lists of ints -/
theorem pyWs_ints (f : Nat → Option PyData) : ∀ l : List Int, pyWs f (l.map D.int) = some (l.map PyData.int)
  | [] => rfl
  | a :: l => by
    have := pyWs_ints f l
    simp only [List.map_cons, pyWs, pyW, this]
theorem canLay_ints : ∀ l : List Int, PyData.canLayAll0 (l.map PyData.int) = true
  | [] => rfl
  | a :: l => by
    have := canLay_ints l
    simp only [List.map_cons, PyData.canLayAll0, PyData.canLay0, this, Bool.and_self]
theorem depth_ints : ∀ l : List Int, PyData.depthAll (l.map PyData.int) ≤ 1
  | [] => by decide
  | a :: l => by
    have := depth_ints l
    simp only [List.map_cons, PyData.depthAll, PyData.depth]
    omega
theorem shaped_ints (l : List Int) : SeqAt.shaped (.list (l.map PyData.int)) = true := by
  have h1 := canLay_ints l
  have h2 := depth_ints l
  unfold SeqAt.shaped
  rw [Bool.and_eq_true]
  refine ⟨by simpa only [PyData.canLay0] using h1, ?_⟩
  rw [decide_eq_true_eq]
  simp only [PyData.depth]
  omega
theorem eqv_ints : ∀ a b : List Int, PyData.eqvAll (a.map PyData.int) (b.map PyData.int) = decide (a = b)
  | [], [] => rfl
  | [], b :: bs => by simp [PyData.eqvAll]
  | a :: as, [] => by simp [PyData.eqvAll]
  | a :: as, b :: bs => by
    simp only [List.map_cons, PyData.eqvAll, PyData.eqv, eqv_ints as bs]
    by_cases h1 : a = b <;> by_cases h2 : as = bs <;> simp [h1, h2]
theorem eq_ints (a b : List Int) (μ : Mem) : gEq (.lst (a.map D.int)) (.lst (b.map D.int)) μ = some (.bl (decide (a = b))) := by
  unfold gEq eqD pyOf
  simp only [pyW, pyWs_ints]
  rw [if_pos (by rw [shaped_ints, shaped_ints]; rfl)]
  simp only [PyData.eqv, eqv_ints]
/-- cells are ints -/
theorem cells_ints : ∀ es : List D, es.all cellB = true → ∃ is : List Int, es = is.map D.int ∧ Cells is
  | [], _ => ⟨[], rfl, fun x hx => by simp at hx⟩
  | e :: es, h => by
    rw [List.all_cons, Bool.and_eq_true] at h
    obtain ⟨is, e1, e2⟩ := cells_ints es h.2
    cases e with
    | int i =>
      have h0 := h.1
      simp only [cellB, Bool.and_eq_true, decide_eq_true_eq] at h0
      exact ⟨i :: is, by rw [e1]; rfl, fun x hx => (List.mem_cons.mp hx).elim (fun z => by rw [z]; exact h0) (e2 x)⟩
    | _ => simp [cellB] at h
theorem ints_cells : ∀ is : List Int, Cells is → (is.map D.int).all cellB = true
  | [], _ => rfl
  | i :: is, h => by
    have := ints_cells is fun x hx => h x (List.mem_cons_of_mem _ hx)
    have h0 := h i List.mem_cons_self
    simp only [List.map_cons, List.all_cons, this, cellB, decide_eq_true h0.1, decide_eq_true h0.2, Bool.and_self]
theorem rowB_ints {n : Nat} {o : Option (List D)} (h : rowB n o = true) : ∃ is : List Int, o = some (is.map D.int) ∧ Cl n is := by
  cases o with
  | none => cases h
  | some es =>
    simp only [rowB, Bool.and_eq_true, decide_eq_true_eq] at h
    obtain ⟨is, rfl, hc⟩ := cells_ints es h.2
    exact ⟨is, rfl, by simpa using h.1, hc⟩
theorem isi_int {d : D} (h : Ent d) (μ : Mem) : gIsi ["int"] d μ = some (.bl (match d with
    | .int _ => true
    | .bl _ => true
    | _ => false)) := by cases h <;> rfl
theorem isi_bool {d : D} (h : Ent d) (μ : Mem) : gIsi ["bool"] d μ = some (.bl (match d with
    | .bl _ => true
    | _ => false)) := by cases h <;> rfl
/-- the law's own look at a row -/
theorem law_is_row_ok {d : D} {o : Option (List D)} (h : Kd d o) (n : Nat) : f__law_is_row [d, .int (n : Int)] [] = .ok (.bl (rowB n o)) [] := by
  have hv : ∀ δ μ, eVar 0 (some d :: δ) μ = .ok d μ := fun δ μ => h.var rfl
  have lc : ∀ (es : List D), (∀ e ∈ es, Ent e) → ∀ δ : Sv, lcL (gNm 2) (tOrM (tNotM (tTru (e1 (gIsi ["int"]) (eVar 2)))) (tOrM (tTru (e1 (gIsi ["bool"]) (eVar 2))) (tNotM (tBl (eChn gLe gLt (eC (.int 0)) (eVar 2) (eC (.int 257))))))) (eVar 2) [some d, some (.int (n : Int)), none] es [] = .ok (es.filter fun e => !cellB e) [] := fun es hes _ => by
    have := lcL_filt (e := id) (f := id) (t := fun e => !cellB e) (mt := (tOrM (tNotM (tTru (e1 (gIsi ["int"]) (eVar 2)))) (tOrM (tTru (e1 (gIsi ["bool"]) (eVar 2))) (tNotM (tBl (eChn gLe gLt (eC (.int 0)) (eVar 2) (eC (.int 257)))))))) (me := eVar 2) (δ := [some d, some (.int (n : Int)), none]) (μ := []) (i := 2) es fun a ha => by
      have e := hes a ha
      have v : eVar 2 [some d, some (.int (n : Int)), some a] [] = .ok a [] := e.var rfl
      refine ⟨?_, fun _ => v⟩
      show (tOrM _ _) [some d, some (.int (n : Int)), some a] [] = _
      cases e with
      | int i => by_cases h0 : 0 ≤ i <;> simp [v, isi_int (.int i), isi_bool (.int i), h0, cellB]
      | non => simp [v, isi_int .non, cellB]
      | bl b => simp [v, isi_int (.bl b), isi_bool (.bl b), cellB]
      | str => simp [v, isi_int .str, cellB]
      | tup => simp [v, isi_int .tup, cellB]
    simpa using this
  have fin : ∀ es : List D, (es.filter fun e => !cellB e).isEmpty = es.all cellB := fun es => by
    induction es with
    | nil => rfl
    | cons a es ih =>
      rw [List.filter_cons, List.all_cons]
      cases cellB a <;> simp [ih]
  unfold f__law_is_row bodyM m__law_is_row
  cases h with
  | @tup es h hl =>
    have c := lc es h []
    have sz : (es.filter fun e => !cellB e).length ≤ sizeLine := szN (Nat.le_trans (List.length_filter_le _ _) (by omega))
    have en := eq_nil (es := es.filter fun e => !cellB e) (fun e he => h e (List.mem_filter.mp he).1) []
    have i1 : gIsi ["list", "tuple"] (.tup es) [] = some (.bl true) := rfl
    have l0 : gLstD [] [] = some (.lst []) := rfl
    by_cases hn : es.length = n
    · subst hn
      simp [hv, eVar, i1, wipeD, c, sz, l0, en, fin, rowB]
    · have : ((es.length : Int) == (n : Int)) = false := by simpa using fun z => hn (by omega)
      simp [hv, eVar, i1, this, rowB, hn]
  | @lst es h hl =>
    have c := lc es h []
    have sz : (es.filter fun e => !cellB e).length ≤ sizeLine := szN (Nat.le_trans (List.length_filter_le _ _) (by omega))
    have en := eq_nil (es := es.filter fun e => !cellB e) (fun e he => h e (List.mem_filter.mp he).1) []
    have i1 : gIsi ["list", "tuple"] (.lst es) [] = some (.bl true) := rfl
    have l0 : gLstD [] [] = some (.lst []) := rfl
    by_cases hn : es.length = n
    · subst hn
      simp [hv, eVar, i1, wipeD, c, sz, l0, en, fin, rowB]
    · have : ((es.length : Int) == (n : Int)) = false := by simpa using fun z => hn (by omega)
      simp [hv, eVar, i1, this, rowB, hn]
  | no h =>
    have i1 : gIsi ["list", "tuple"] d [] = some (.bl false) := by cases h <;> rfl
    simp [hv, i1, rowB]
/-! ### sums of products -/
/-- a row of ints, as a tuple or a list -/
inductive Sq : D → List Int → Prop
  | t (l : List Int) : Sq (tI l) l
  | l (l : List Int) : Sq (.lst (l.map D.int)) l
theorem Sq.seq {d : D} {l : List Int} (h : Sq d l) : seqV d = some (l.map D.int) := by cases h <;> rfl
theorem Sq.var {d : D} {l : List Int} (h : Sq d l) {δ : Sv} {i : Nat} {μ : Mem} (hd : δ[i]? = some (some d)) : eVar i δ μ = .ok d μ := by
  unfold eVar
  rw [hd]
  cases h <;> rfl
theorem Sq.loc {d : D} {l : List Int} (h : Sq d l) (sc : Bool) (k : Nat) : locB sc k d = true := by cases h <;> simp [locB, loc_ints]
theorem gMul_c {x y : Int} {μ : Mem} (h : 0 ≤ x ∧ x < 257) : gMul (.int x) (.int y) μ = some (.int (x * y)) := gMul_l (by omega) (by omega)
theorem gMul_c' {x y : Int} {μ : Mem} (h : 0 ≤ y ∧ y < 257) : gMul (.int x) (.int y) μ = some (.int (x * y)) := gMul_r (by omega) (by omega)
theorem dot_lc {a b : List Int} (ha : Cells a) {δ : Sv} {μ : Mem} {i j : Nat} (hij : i ≠ j) (hi : i < δ.length) (hj : j < δ.length) :
    lcL (gSeq 2 (gsCons (gNm i) (gsCons (gNm j) gsNil))) tYesM (e2 gMul (eVar i) (eVar j)) δ (zipD (a.map D.int) (b.map D.int)) μ = .ok ((List.zipWith (fun x y => x * y) a b).map D.int) μ := by
  rw [lcL_zip2 (f := fun x y => D.int (x * y)) a b fun x hx y hy => by
    have v1 : eVar i ((δ.set i (some (.int x))).set j (some (.int y))) μ = .ok (.int x) μ := by
      unfold eVar
      rw [List.getElem?_set_ne (Ne.symm hij), List.getElem?_set_self hi]
    have v2 : eVar j ((δ.set i (some (.int x))).set j (some (.int y))) μ = .ok (.int y) μ := by
      unfold eVar
      rw [List.getElem?_set_self (by simpa using hj)]
    simp [v1, v2, gMul_c (ha x hx)]]
  rw [List.map_zipWith]
theorem sum_ints (l : List Int) (μ : Mem) : gSum [.lst (l.map D.int)] μ = some (.int l.sum) := by simp only [gSum, lstOf_lst, intsOf_map]
theorem dot_lc' {a b : List Int} (ha : Cells a) (hl : a.length ≤ 1000) : ∃ zs : List Int, dot a b = zs.sum ∧ zs.length ≤ sizeLine ∧ ∀ (x y : D), lcL (gSeq 2 (gsCons (gNm 2) (gsCons (gNm 3) gsNil))) tYesM (e2 gMul (eVar 2) (eVar 3)) [some x, some y, none, none] (zipD (a.map D.int) (b.map D.int)) [] = .ok (zs.map D.int) [] :=
  ⟨_, rfl, szN (by simp; omega), fun x y => dot_lc ha (by decide) (by simp) (by simp)⟩
theorem product_ok {x y : D} {a b : List Int} (hx : Sq x a) (hy : Sq y b) (ha : Cells a) (hl : a.length ≤ 1000) : f_product [x, y] [] = .ok (.int (prod a b)) [] := by
  have v0 : ∀ δ μ, eVar 0 (some x :: δ) μ = .ok x μ := fun δ μ => hx.var rfl
  have v1 : ∀ δ μ, eVar 1 (some x :: some y :: δ) μ = .ok y μ := fun δ μ => hy.var rfl
  obtain ⟨zs, e, sz, c⟩ := dot_lc' (b := b) ha hl
  unfold f_product bodyM m_product
  simp [v0, v1, hx.seq, hy.seq, wipeD, c, sz, sum_ints, d_CELL, gMod_int, prod, e]
theorem law_product_ok {x y : D} {a b : List Int} (hx : Sq x a) (hy : Sq y b) (ha : Cells a) (hl : a.length ≤ 1000) : f__law_product [x, y] [] = .ok (.int (prod a b)) [] := by
  have v0 : ∀ δ μ, eVar 0 (some x :: δ) μ = .ok x μ := fun δ μ => hx.var rfl
  have v1 : ∀ δ μ, eVar 1 (some x :: some y :: δ) μ = .ok y μ := fun δ μ => hy.var rfl
  obtain ⟨zs, e, sz, c⟩ := dot_lc' (b := b) ha hl
  unfold f__law_product bodyM m__law_product
  simp [v0, v1, hx.seq, hy.seq, wipeD, c, sz, sum_ints, gMod_int, prod, e]
theorem prod_c {x y : D} {a b : List Int} (hx : Sq x a) (hy : Sq y b) (ha : Cells a) (hl : a.length ≤ 1000) (μ : Mem) : callP f_product [x, y] μ = .ok (.int (prod a b)) μ := callP_ok (product_ok hx hy ha hl) (by simp [locBs, hx.loc, hy.loc]) rfl
theorem lprod_c {x y : D} {a b : List Int} (hx : Sq x a) (hy : Sq y b) (ha : Cells a) (hl : a.length ≤ 1000) (μ : Mem) : callP f__law_product [x, y] μ = .ok (.int (prod a b)) μ := callP_ok (law_product_ok hx hy ha hl) (by simp [locBs, hx.loc, hy.loc]) rfl
/-! ### rows, mixed -/
theorem mixed_ok {r o : List Int} {c : Int} (ho : Cells o) (hl : r.length ≤ 1000) : f_mixed [tI r, .int c, tI o] [] = .ok (tI (mix r c o)) [] := by
  have lc : lcL (gSeq 2 (gsCons (gNm 3) (gsCons (gNm 4) gsNil))) tYesM (e2 gMod (e2 gAdd (eVar 3) (e2 gMul (eVar 1) (eVar 4))) (eC d_CELL)) [some (tI r), some (.int c), some (tI o), none, none] (zipD (r.map D.int) (o.map D.int)) [] = .ok ((mix r c o).map D.int) [] := by
    rw [lcL_zip2 (f := fun x y => D.int ((x + c * y) % 257)) r o fun x hx y hy => by
      simp [eVar, gMul_c' (ho y hy), d_CELL, gMod_int]]
    rw [mix, List.map_zipWith]
  have sz : (mix r c o).length ≤ sizeLine := szN (by simp [mix]; omega)
  unfold f_mixed bodyM m_mixed
  simp [eVar, wipeD, lc, sz]
theorem mixed_c {r o : List Int} {c : Int} (ho : Cells o) (hl : r.length ≤ 1000) (μ : Mem) : callP f_mixed [tI r, .int c, tI o] μ = .ok (tI (mix r c o)) μ := callP_ok (mixed_ok ho hl) (by simp [locBs, locB, loc_ints]) (loc_tI _ _ _)
end K04

set_option Elab.async false
set_option linter.all false
set_option maxRecDepth 100000
namespace Kw
open PySem PySem.Spec PyProof.Rows L2
/-! ### still more for the plain functions -/
theorem seq_nx {m1 m2 : SM} {δ δ1 : Sv} {μ μ1 : Mem} (h : m1 δ μ = .nx δ1 μ1) : sSeq m1 m2 δ μ = m2 δ1 μ1 := by rw [sSeq_run, h]; rfl
@[simp] theorem then_ct {δ : Sv} {μ : Mem} {k : Sv → Mem → SOut} : (SOut.ct δ μ).then k = .ct δ μ := nr rfl
@[simp] theorem then_bk {δ : Sv} {μ : Mem} {k : Sv → Mem → SOut} : (SOut.bk δ μ).then k = .bk δ μ := nr rfl
@[simp] theorem sCont_run {δ : Sv} {μ : Mem} : sCont δ μ = .ct δ μ := nr rfl
@[simp] theorem sBreak_run {δ : Sv} {μ : Mem} : sBreak δ μ = .bk δ μ := nr rfl
theorem map_eraseI {α β : Type} (f : α → β) : ∀ (l : List α) (i : Nat), (l.map f).eraseIdx i = (l.eraseIdx i).map f
  | [], _ => rfl
  | a :: l, 0 => rfl
  | a :: l, i + 1 => by
    have := map_eraseI f l i
    simp [this]
theorem pop_at {xs : List D} {l k : Nat} {μ : Mem} {x : D} (h : μ[l]? = some (.lst xs)) (hk : xs[k]? = some x) (hs : k ≤ 1000000) : gPop (.loc l) [.int (k : Int)] μ = some (x, μ.set l (.lst (xs.eraseIdx k))) := by
  have hl : k < xs.length := (List.getElem?_eq_some_iff.mp hk).1
  have hsq : seqIndex? (k : Int) xs.length = some k := by
    have := seqIndex_of (k := (k : Int)) (n := xs.length) (by omega) (by omega)
    simpa using this
  have hb : (-9223372036854775808 : Int) ≤ k ∧ (k : Int) < 9223372036854775808 := by omega
  unfold gPop
  simp only [h]
  rw [if_pos hb, hsq]
  simp only [hk]
theorem mtL_pop {l : Nat} {μ μ2 : Mem} {xs : List D} {ma : AM} {mo : EM} {δ : Sv} {r : D × Mem} {as : List D} (ho : mo δ μ = .ok (.loc l) μ) (h : μ[l]? = some (.lst xs)) (ha : ma δ μ = .ok as μ2) (hp : gPop (.loc l) as μ2 = some r) : eMtL gPop mo ma δ μ = .ok r.1 r.2 := by
  have : lstX μ (.loc l) = some xs := by simp [lstX, h]
  simp [ho, this, ha, hp]
  rfl
theorem append_at {xs : List D} {l : Nat} {μ : Mem} {y : D} (h : μ[l]? = some (.lst xs)) (hs : xs.length ≤ 1000000) : gAppend (.loc l) [y] μ = some (.non, μ.set l (.lst (xs ++ [y]))) := by
  have : xs.length < sizeLine := by show _ < 2 ^ 24; omega
  simp [gAppend, h, this]
theorem asg_nx {ma : EM} {δ : Sv} {μ μ1 : Mem} {d : D} {i : Nat} (h : ma δ μ = .ok d μ1) : sAsg ma (gNm i) δ μ = .nx (δ.set i (some d)) μ1 := by rw [sAsg_run, h]; rfl
theorem body_ret {N : Nat} {m : SM} {ds : List D} {μ μ' : Mem} {δ : Sv} {d : D} (hδ : ds.map some ++ List.replicate (N - ds.length) none = δ) (h : m δ μ = .ret d μ') : bodyM N m ds μ = .ok d μ' := by
  unfold bodyM
  rw [hδ, h]
/-- a comprehension over a place, nothing filtered, nothing changed -/
theorem loc_map' {α : Type} {e : α → D} {pl : Bool} {me : EM} {δ : Sv} {μ : Mem} {f : α → D} {i j l : Nat} {xs : List α} (hv : δ[j]? = some (some (.loc l))) (hl : μ[l]? = some (.lst (xs.map e))) (hn : xs.length ≤ 1000000) (hi : i < δ.length)
    (h : ∀ a ∈ xs, me (δ.set i (some (e a))) μ = .ok (f a) μ) : eLcN pl (nLoc (eVar j)) (gNm i) tYesM me [i] δ μ = if pl = true then .ok (.loc μ.length) (μ ++ [.lst (xs.map f)]) else .ok (.lst (xs.map f)) μ := by
  have hlc := lcN_map (e := fun _ a => e a) (nx := nxLoc l) (g := gNm i) (mt := tYesM) (me := me) (δ := δ.set i none) (μ := μ) (t := fun _ _ => true) (f := fun _ a => f a) (n := xs.length) (by simp [nxLoc, hl]) xs 0 (xs.length + 1) (by omega) (by omega) (fun j a ha => by
    have hjl := (List.getElem?_eq_some_iff.mp ha).1
    refine ⟨by simp [nxLoc, hl, ha]; omega, δ.set i (some (e a)), ?_, rfl, fun _ => h a (List.mem_of_getElem? ha)⟩
    rw [gNm_run, List.set_set])
  have e1 : ((xs.zipIdx 0).filter fun p => (fun _ _ => true) p.2 p.1).map (fun p => (fun _ a => f a) p.2 p.1) = xs.map f := by
    rw [List.filter_eq_self.mpr fun _ _ => rfl]
    refine List.ext_getElem (by simp) fun k h1 h2 => by simp
  rw [e1] at hlc
  have hv' : eVar j δ μ = .ok (.loc l) μ := by rw [eVar_run, hv]; rfl
  have sz : (xs.map f).length ≤ sizeLine := szK (by simpa using hn)
  have hn' : nLoc (eVar j) δ μ = .ok (nxLoc l, xs.length + 1) μ := by simp [nLoc, hv', hl]
  unfold eLcN
  rw [hn']
  simp only [bind_ok]
  have hw : wipeD δ [i] = δ.set i none := rfl
  rw [hw, hlc]
  simp only
  rw [if_pos sz]
where szK {n : Nat} (h : n ≤ 1000000) : n ≤ sizeLine := by show _ ≤ 2 ^ 24; omega
theorem lcL_enum {α : Type} {e : α → D} {me : EM} {δ : Sv} {μ : Mem} {f : Nat → α → D} {i j : Nat} : ∀ (xs : List α) (n : Nat), (∀ k a, xs[k]? = some a → me ((δ.set i (some (.int ((n + k : Nat) : Int)))).set j (some (e a))) μ = .ok (f (n + k) a) μ) →
    lcL (gSeq 2 (gsCons (gNm i) (gsCons (gNm j) gsNil))) tYesM me δ (enumD n (xs.map e)) μ = .ok ((xs.zipIdx n).map fun p => f p.2 p.1) μ
  | [], n, _ => rfl
  | a :: xs, n, h => by
    have ih := lcL_enum xs (n + 1) fun k b hb => by
      have := h (k + 1) b (by simpa using hb)
      rw [show n + (k + 1) = n + 1 + k by omega] at this
      exact this
    have h0 := h 0 a rfl
    rw [Nat.add_zero] at h0
    have g0 : gSeq 2 (gsCons (gNm i) (gsCons (gNm j) gsNil)) (.tup [.int (n : Int), e a]) δ μ = .nx ((δ.set i (some (.int (n : Int)))).set j (some (e a))) μ := rfl
    simp only [List.map_cons, enumD, lcL, g0, tYes_run, h0, ih, List.zipIdx_cons]
theorem lcL_pair {α : Type} {e1 e2 : α → D} {me : EM} {δ : Sv} {μ : Mem} {f : α → D} {i j : Nat} : ∀ (xs : List α), (∀ a ∈ xs, me ((δ.set i (some (e1 a))).set j (some (e2 a))) μ = .ok (f a) μ) →
    lcL (gSeq 2 (gsCons (gNm i) (gsCons (gNm j) gsNil))) tYesM me δ (xs.map fun a => .tup [e1 a, e2 a]) μ = .ok (xs.map f) μ
  | [], _ => rfl
  | a :: xs, h => by
    have ih := lcL_pair xs fun b hb => h b (List.mem_cons_of_mem _ hb)
    have h0 := h a List.mem_cons_self
    have g0 : gSeq 2 (gsCons (gNm i) (gsCons (gNm j) gsNil)) (.tup [e1 a, e2 a]) δ μ = .nx ((δ.set i (some (e1 a))).set j (some (e2 a))) μ := rfl
    simp only [List.map_cons, lcL, g0, tYes_run, h0, ih]
theorem flat_map_ints : ∀ l : List Int, (l.map D.int).all flatD = true
  | [] => rfl
  | a :: l => by simp [flatD, flat_map_ints l]
theorem eqF_map_ints (x : Int) : ∀ l : List Int, ((l.map D.int).any fun z => eqF z (.int x)) = l.contains x
  | [] => rfl
  | a :: l => by
    have := eqF_map_ints x l
    rw [List.map_cons, List.any_cons, this, List.contains_cons]
    congr 1
    show (a == x) = (x == a)
    exact BEq.comm
theorem nin_ints (x : Int) (l : List Int) (μ : Mem) : gNin (.int x) (.lst (l.map D.int)) μ = some (.bl !l.contains x) := by
  unfold gNin gOr2 gNinF inF
  simp only [seqOf, lstOf, flat_map_ints, flatD, Bool.and_self, if_true, eqF_map_ints, Option.map_some]
theorem any_map' {α : Type} (es : List α) (f : α → Bool) (μ : Mem) : gAny [.lst (es.map fun e => D.bl (f e))] μ = some (.bl (es.any f)) := by
  simp only [gAny, lstOf_lst', boolsOf_map, List.any_map]
  rfl
where lstOf_lst' {xs : List D} {μ : Mem} : lstOf μ (.lst xs) = some xs := rfl
/-- o[k] = v -/
theorem set_at {xs : List D} {l k : Nat} {μ : Mem} {y : D} (h : μ[l]? = some (.lst xs)) (hk : k < xs.length) : gSet (.loc l) (.int (k : Int)) y μ = some (μ.set l (.lst (xs.set k y))) := by
  unfold gSet
  simp only [h]
  have : ixN xs.length (k : Int) = some k := by
    unfold ixN
    rw [if_pos (by omega), if_pos (by omega)]
    simp
  rw [this]
/-! ### calls that may leave places of their own -/
theorem callM_any {m : FM} {ds : List D} {μ μ' : Mem} {d : D} (h : m ds μ = .ok d μ') (hl : μ.length ≤ μ'.length) : ∃ μ'', callM m ds μ = .ok d μ'' ∧ μ.length ≤ μ''.length ∧ ∀ i, i < μ.length → μ''[i]? = μ'[i]? := by
  unfold callM
  rw [h]
  simp only
  split
  · exact ⟨_, rfl, by rw [List.length_take]; omega, fun i hi => by rw [List.getElem?_take, if_pos hi]⟩
  · exact ⟨_, rfl, hl, fun _ _ => rfl⟩
/-- the places but l stay; there may be more -/
def Kp (l : Nat) (μ μ' : Mem) : Prop := μ.length ≤ μ'.length ∧ ∀ i, i < μ.length → i ≠ l → μ'[i]? = μ[i]?
theorem Kp.refl (l : Nat) (μ : Mem) : Kp l μ μ := ⟨Nat.le_refl _, fun _ _ _ => rfl⟩
theorem Kp.trans {l : Nat} {a b c : Mem} (x : Kp l a b) (y : Kp l b c) : Kp l a c := ⟨Nat.le_trans x.1 y.1, fun i h n => (y.2 i (Nat.lt_of_lt_of_le h x.1) n).trans (x.2 i h n)⟩
theorem Kp.of {l : Nat} {a b : Mem} (x : Stay l a b) : Kp l a b := ⟨Nat.le_of_eq x.1.symm, fun i _ n => x.2 i n⟩
theorem Kp.app (l : Nat) (μ : Mem) (b : Ob) : Kp l μ (μ ++ [b]) := ⟨by simp, fun i h _ => List.getElem?_append_left h⟩
/-- a change of a place that is new -/
theorem Kp.set {l k : Nat} {a b : Mem} {o : Ob} (x : Kp l a b) (hk : a.length ≤ k) : Kp l a (b.set k o) := ⟨by rw [List.length_set]; exact x.1, fun i h n => by rw [List.getElem?_set_ne (by omega)]; exact x.2 i h n⟩
theorem lcL_eff {α : Type} {e : α → D} {me : EM} {δ : Sv} {i : Nat} {I : Mem → Prop} {P : D → Prop} : ∀ (xs : List α) (μ : Mem), (∀ a ∈ xs, ∀ μ, I μ → ∃ y μ', me (δ.set i (some (e a))) μ = .ok y μ' ∧ I μ' ∧ P y) → I μ →
    ∃ ys μ', lcL (gNm i) tYesM me δ (xs.map e) μ = .ok ys μ' ∧ I μ' ∧ ys.length = xs.length ∧ ∀ y ∈ ys, P y
  | [], μ, _, h0 => ⟨[], μ, rfl, h0, rfl, fun y h => by simp at h⟩
  | a :: xs, μ, h, h0 => by
    obtain ⟨y, μ1, e1, h1, p⟩ := h a List.mem_cons_self μ h0
    obtain ⟨ys, μ2, e2, h2, hl, hp⟩ := lcL_eff xs μ1 (fun b hb => h b (List.mem_cons_of_mem _ hb)) h1
    refine ⟨y :: ys, μ2, ?_, h2, by simp [hl], fun z hz => (List.mem_cons.mp hz).elim (fun e => e ▸ p) (hp z)⟩
    simp only [List.map_cons, lcL, gNm_run, tYes_run, e1, e2]
theorem ints_of {Q : Int → Prop} : ∀ ys : List D, (∀ y ∈ ys, ∃ c, y = .int c ∧ Q c) → ∃ cs : List Int, ys = cs.map D.int ∧ ∀ c ∈ cs, Q c
  | [], _ => ⟨[], rfl, fun c h => by simp at h⟩
  | y :: ys, h => by
    obtain ⟨c, rfl, q⟩ := h y List.mem_cons_self
    obtain ⟨cs, rfl, hq⟩ := ints_of ys fun z hz => h z (List.mem_cons_of_mem _ hz)
    exact ⟨c :: cs, rfl, fun z hz => (List.mem_cons.mp hz).elim (fun e => e ▸ q) (hq z)⟩
theorem frz_at {δ : Sv} {μ : Mem} {i l : Nat} {xs : List D} (h1 : δ[i]? = some (some (.loc l))) (h2 : μ[l]? = some (.lst xs)) : sFrz i δ μ = .nx (δ.set i (some (.lst xs))) (μ.set l .gone) := by
  unfold sFrz
  rw [h1]
  simp only
  rw [h2]
theorem mtL_app {l : Nat} {μ μ2 : Mem} {xs ys : List D} {y : D} {ma : AM} {mo : EM} {δ : Sv} (ho : mo δ μ = .ok (.loc l) μ) (h : μ[l]? = some (.lst ys)) (ha : ma δ μ = .ok [y] μ2) (h2 : μ2[l]? = some (.lst xs)) (hs : xs.length ≤ 1000000) : eMtL gAppend mo ma δ μ = .ok .non (μ2.set l (.lst (xs ++ [y]))) := by
  have : lstX μ (.loc l) = some ys := by simp [lstX, h]
  simp [ho, this, ha, append_at h2 hs]
end Kw

set_option Elab.async false
set_option linter.all false
set_option maxRecDepth 100000
namespace K04
open PySem PySem.Spec PyProof.Rows L2 Kw
theorem Sq.vo {d : D} {l : List Int} (h : Sq d l) {μ : Mem} : vOf (some (some d)) μ = .ok d μ := by cases h <;> rfl
theorem Kd.vo {d : D} {o : Option (List D)} (h : Kd d o) {μ : Mem} : vOf (some (some d)) μ = .ok d μ := by
  cases h with
  | no h => cases h <;> rfl
  | _ => rfl
/-! ### rows that are looked at -/
structure RR (rows : List (List Int)) (w : Nat) : Prop where
  n1 : 1 ≤ rows.length
  n2 : rows.length ≤ 40
  w1 : 1 ≤ w
  w2 : w ≤ 40
  r : ∀ r ∈ rows, Cl w r
abbrev encR (rows : List (List Int)) : List D := rows.map tI
theorem loc_encR (sc : Bool) (k : Nat) (rows : List (List Int)) : locBs sc k (encR rows) = true := loc_map rows fun a _ => loc_tI sc k a
theorem RR.at {rows : List (List Int)} {w : Nat} (h : RR rows w) : ∃ r0, rows[0]? = some r0 ∧ Cl w r0 := by
  have := h.n1
  refine ⟨rows[0], List.getElem?_eq_getElem (by omega), h.r _ (List.getElem_mem _)⟩
theorem tI_len (r : List Int) (μ : Mem) : gLen [tI r] μ = some (.int r.length) := by simp [tI]
theorem tI_seq (r : List Int) : Kd (tI r) (some (r.map D.int)) ∨ ¬ r.length ≤ 1000 := by
  by_cases h : r.length ≤ 1000
  · exact .inl (.tup (fun e he => by obtain ⟨i, _, rfl⟩ := List.mem_map.mp he; exact .int i) (by simpa using h))
  · exact .inr h
theorem kd_tI {r : List Int} (h : r.length ≤ 1000) : Kd (tI r) (some (r.map D.int)) := (tI_seq r).resolve_right fun z => z h
theorem ents_ints (r : List Int) : ∀ e ∈ r.map D.int, Ent e := fun e he => by obtain ⟨i, _, rfl⟩ := List.mem_map.mp he; exact .int i
theorem all_cells {r : List Int} (h : Cells r) (μ : Mem) : gAll [.lst ((r.map D.int).map fun e => D.bl (cellB e))] μ = some (.bl true) := by
  rw [all_map', ints_cells r h]
/-- all([is_below(cell, CELL) for cell in ..]) of cells -/
theorem cells_all {r : List Int} (h : Cells r) (hl : r.length ≤ 1000) {δ : Sv} {i : Nat} (hi : i < δ.length) (μ : Mem) : ∃ zs : List D, lcL (gNm i) tYesM (eCallP f_is_below (aCons (eVar i) (aCons (eC d_CELL) aNil))) δ (r.map D.int) μ = .ok zs μ ∧ zs.length ≤ sizeLine ∧ gAll [.lst zs] μ = some (.bl true) :=
  ⟨_, cells_lc (ents_ints r) hi μ, szN (by simp; omega), all_cells h μ⟩
theorem check_row_ok {x : D} {r : List Int} {n : Nat} (hx : Sq x r) (hr : Cl n r) (hn : n ≤ 1000) : f_check_row [x, .int (n : Int)] [] = .ok (tI r) [] := by
  have v0 : ∀ μ, vOf (some (some x)) μ = .ok x μ := fun μ => hx.vo
  have hs : callP f_is_sequence [x] [] = .ok (.bl true) [] := callP_ok (by cases hx <;> rfl) (by simp [locBs, hx.loc]) rfl
  obtain ⟨zs, c1, c2, c3⟩ := cells_all hr.2 (by rw [hr.1]; exact hn) (δ := [some x, some (.int (n : Int)), none]) (i := 2) (by simp) []
  have hl : gLen [x] [] = some (.int (n : Int)) := by rw [← hr.1]; cases hx <;> simp [tI]
  have ht : gTuple [x] [] = some (tI r) := by cases hx <;> rfl
  unfold f_check_row bodyM m_check_row
  simp [v0, hs, hl, eVar_run, hx.seq, wipeD, c1, c2, c3, ht]
theorem check_rows_ok {x : D} {rows : List (List Int)} {w : Nat} (h : RR rows w) (hx : x = .lst (encR rows) ∨ x = .tup (encR rows)) : f_check_rows [x] [] = .ok (.tup (encR rows)) [] := by
  have v0 : ∀ μ, vOf (some (some x)) μ = .ok x μ := fun μ => by rcases hx with rfl | rfl <;> rfl
  have lx : locB false 0 x = true := by rcases hx with rfl | rfl <;> exact loc_encR _ _ _
  have sv : seqV x = some (encR rows) := by rcases hx with rfl | rfl <;> rfl
  have so : seqOf [] x = some (encR rows) := by rcases hx with rfl | rfl <;> rfl
  have hs : callP f_is_sequence [x] [] = .ok (.bl true) [] := callP_ok (by rcases hx with rfl | rfl <;> rfl) (by simp [locBs, lx]) rfl
  have hl : gLen [x] [] = some (.int (rows.length : Int)) := by rcases hx with rfl | rfl <;> simp
  obtain ⟨r0, hr0, c0⟩ := h.at
  have i0 : gIx x (.int 0) [] = some (tI r0) := by
    have := ix_nat (k := 0) (μ := []) so
    rw [List.getElem?_map, hr0] at this
    exact this
  have s0 : ∀ r : List Int, callP f_is_sequence [tI r] [] = .ok (.bl true) [] := fun r => callP_ok rfl (by simp [locBs, loc_tI]) rfl
  have n1 : (1 : Int) ≤ (rows.length : Int) := by have := h.n1; omega
  have n2 : (rows.length : Int) ≤ 40 := by have := h.n2; omega
  have w1 : (1 : Int) ≤ (w : Int) := by have := h.w1; omega
  have w2 : (w : Int) ≤ 40 := by have := h.w2; omega
  have lp : ∃ δ' μ', loopS (gNm 2) (sSeq (sIf (tOrM (tNotM (tBl (eChn gLe gLe (eC (.int 1)) (eVar 1) (eC (.int 40))))) (tOrM (tNotM (tTru (eCallP f_is_sequence (aCons (eVar 2) aNil)))) (tBl (e2 gNe (eAs gLen (aCons (eVar 2) aNil)) (eVar 1))))) sStop sNext) (sIf (tNotM (tTru (eAs gAll (aCons (eLc (iSeq (eVar 2)) (gNm 3) tYesM (eCallP f_is_below (aCons (eVar 3) (aCons (eC d_CELL) aNil))) [3]) aNil)))) sStop sNext)) (encR rows) [some x, some (.int (w : Int)), none, none] [] = .nx δ' μ' ∧ (μ' = [] ∧ ∃ o, δ' = [some x, some (.int (w : Int)), o, none]) := by
    refine loopS_at (I := fun k δ μ => μ = [] ∧ ∃ o, δ = [some x, some (.int (w : Int)), o, none]) (encR rows) 0 (fun k d δ μ hk hI => ?_) ⟨rfl, none, rfl⟩
    obtain ⟨rfl, o, rfl⟩ := hI
    rw [List.getElem?_map] at hk
    obtain ⟨r, hr, rfl⟩ := Option.map_eq_some_iff.mp hk
    have cr := h.r r (List.mem_of_getElem? hr)
    obtain ⟨zs, c1, c2, c3⟩ := cells_all cr.2 (by rw [cr.1]; have := h.w2; omega) (δ := [some x, some (.int (w : Int)), some (tI r), none]) (i := 3) (by simp) []
    have el : (r.length : Int) = (w : Int) := by rw [cr.1]
    refine ⟨_, [some x, some (.int (w : Int)), some (tI r), none], _, [], rfl, .inl ?_, rfl, some (tI r), rfl⟩
    simp [eVar_run, d_MOST_ROWS, w1, w2, s0, el, wipeD, c1, c2, c3]
  obtain ⟨δ', μ', e1, rfl, o, rfl⟩ := lp
  have c4 : lcL (gNm 2) tYesM (eAs gTuple (aCons (eVar 2) aNil)) [some x, some (.int (w : Int)), none, none] (encR rows) [] = .ok (encR rows) [] := lcL_map (e := tI) (f := tI) rows fun r hr => by simp [eVar_run]
  have sz : (encR rows).length ≤ sizeLine := szN (by have := h.n2; simp; omega)
  have el : (r0.length : Int) = (w : Int) := by rw [c0.1]
  unfold f_check_rows bodyM m_check_rows
  simp [v0, hs, hl, eVar_run, d_MOST_ROWS, n1, n2, i0, s0, el, sv]
  rw [e1]
  have sz' : rows.length ≤ sizeLine := szN (by have := h.n2; omega)
  simp [eVar_run, v0, sv, wipeD, c4, sz']
theorem check_rows_c {x : D} {rows : List (List Int)} {w : Nat} (h : RR rows w) (hx : x = .lst (encR rows) ∨ x = .tup (encR rows)) (μ : Mem) : callP f_check_rows [x] μ = .ok (.tup (encR rows)) μ :=
  callP_ok (check_rows_ok h hx) (by rcases hx with rfl | rfl <;> simp [locBs, locB, loc_encR]) (by simp [locB, loc_encR])
theorem check_row_c {x : D} {r : List Int} {n : Nat} (hx : Sq x r) (hr : Cl n r) (hn : n ≤ 1000) (μ : Mem) : callP f_check_row [x, .int (n : Int)] μ = .ok (tI r) μ :=
  callP_ok (check_row_ok hx hr hn) (by simp [locBs, hx.loc]; rfl) (loc_tI _ _ _)
/-! ### sums of rows -/
def sumL (rows : List (List Int)) (y : List Int) (w : Nat) : List Int := (List.range w).map fun c => prod (colOf rows c) y
theorem sum_loop {b : SM} {x y : D} {w : Nat} (hb : b = sAsg (eCallP f_mixed (aCons (eVar 2) (aCons (eVar 4) (aCons (eVar 3) aNil)))) (gNm 2)) : ∀ (rows : List (List Int)) (ys acc : List Int) (o3 o4 : Option D), (∀ r ∈ rows, Cl w r) → w ≤ 1000 → Cl w acc → rows.length = ys.length →
    ∃ o3' o4', loopS (gSeq 2 (gsCons (gNm 3) (gsCons (gNm 4) gsNil))) b (zipD (encR rows) (ys.map D.int)) [some x, some y, some (tI acc), o3, o4] [] = .nx [some x, some y, some (tI ((List.range w).map fun c => (at0 acc c + dot (colOf rows c) ys) % 257)), o3', o4'] []
  | [], [], acc, o3, o4, _, hw, ha, _ => by
    refine ⟨o3, o4, ?_⟩
    have : ((List.range w).map fun c => (at0 acc c + dot (colOf [] c) []) % 257) = acc := by
      refine List.ext_getElem (by simp [ha.1]) fun i h1 h2 => ?_
      have := ha.2 acc[i] (List.getElem_mem h2)
      simp only [List.getElem_map, List.getElem_range, colOf, List.map_nil, dot_nil, at0_lt h2]
      omega
    rw [this]
    rfl
  | r :: rows, y0 :: ys, acc, o3, o4, hr, hw, ha, hl => by
    have cr := hr r List.mem_cons_self
    have hm := mix_cl (c := y0) ha.1 cr.1
    obtain ⟨o3', o4', ih⟩ := sum_loop hb rows ys (mix acc y0 r) (some (tI r)) (some (.int y0)) (fun a h => hr a (List.mem_cons_of_mem _ h)) hw hm (by simpa using hl)
    refine ⟨o3', o4', ?_⟩
    have g0 : gSeq 2 (gsCons (gNm 3) (gsCons (gNm 4) gsNil)) (.tup [tI r, .int y0]) [some x, some y, some (tI acc), o3, o4] [] = .nx [some x, some y, some (tI acc), some (tI r), some (.int y0)] [] := rfl
    have b0 : b [some x, some y, some (tI acc), some (tI r), some (.int y0)] [] = .nx [some x, some y, some (tI (mix acc y0 r)), some (tI r), some (.int y0)] [] := by
      rw [hb]
      have := mixed_c (r := acc) (c := y0) cr.2 (by rw [ha.1]; exact hw) []
      simp [eVar_run, this]
    have e : ((List.range w).map fun c => (at0 (mix acc y0 r) c + dot (colOf rows c) ys) % 257) = ((List.range w).map fun c => (at0 acc c + dot (colOf (r :: rows) c) (y0 :: ys)) % 257) := by
      refine List.map_congr_left fun c hc => ?_
      rw [List.mem_range] at hc
      rw [mix_at (by rw [ha.1]; exact hc) (by rw [cr.1]; exact hc)]
      have e2 : colOf (r :: rows) c = at0 r c :: colOf rows c := rfl
      rw [e2, dot_cons, Int.mul_comm (at0 r c) y0]
      omega
    rw [← e, ← ih]
    exact loopS_nx g0 b0
  | [], y0 :: ys, _, _, _, _, _, _, hl => by simp at hl
  | r :: rows, [], _, _, _, _, _, _, hl => by simp at hl
theorem zero_row (w : Nat) : repD (w : Int) [D.int 0] = (List.replicate w (0 : Int)).map D.int := by
  unfold repD
  rw [Int.toNat_natCast]
  induction w with
  | zero => rfl
  | succ n ih => rw [List.replicate_succ, List.flatten_cons, ih, List.replicate_succ]; rfl
theorem gRep_tup {w : Nat} (h1 : 1 ≤ w) (h2 : w ≤ 1000) (μ : Mem) : gRep (.tup [.int 0]) (.int (w : Int)) μ = some (tI (List.replicate w 0)) := by
  unfold gRep
  simp only
  rw [zero_row]
  have a1 : (1 : Int) ≤ (w : Int) := by omega
  have a2 : (w : Int) ≤ 1000 := by omega
  generalize (w : Int) = j at a1 a2 ⊢
  rw [if_pos ⟨by simp, a1, a2, by simp⟩]
theorem rep_cl {w : Nat} : Cl w (List.replicate w (0 : Int)) := ⟨by simp, fun x hx => by rw [List.eq_of_mem_replicate hx]; omega⟩
theorem sum_rows_ok {v : D} {rows : List (List Int)} {y : List Int} {w : Nat} (h : RR rows w) (hv : Sq v y) (hy : y.length = rows.length) : f_sum_of_rows [.tup (encR rows), v] [] = .ok (tI (sumL rows y w)) [] := by
  have v1 : ∀ μ, vOf (some (some v)) μ = .ok v μ := fun μ => hv.vo
  obtain ⟨r0, hr0, c0⟩ := h.at
  have i0 : gIx (.tup (encR rows)) (.int 0) [] = some (tI r0) := by
    have := ix_nat (x := .tup (encR rows)) (k := 0) (μ := []) rfl
    rw [List.getElem?_map, hr0] at this
    exact this
  have gr := gRep_tup h.w1 (by have := h.w2; omega) []
  obtain ⟨o3, o4, lp⟩ := sum_loop (x := .tup (encR rows)) (y := v) rfl rows y (List.replicate w 0) none none h.r (by have := h.w2; omega) rep_cl hy.symm
  have e : ((List.range w).map fun c => (at0 (List.replicate w (0 : Int)) c + dot (colOf rows c) y) % 257) = sumL rows y w := by
    refine List.map_congr_left fun c _ => ?_
    rw [at0_rep, Int.zero_add]
    rfl
  rw [e] at lp
  have t0 : gTupD [.int 0] [] = some (.tup [.int 0]) := rfl
  have el : (r0.length : Int) = (w : Int) := by rw [c0.1]
  unfold f_sum_of_rows bodyM m_sum_of_rows
  simp [eVar_run, v1, i0, el, t0, gr, hv.seq]
  rw [lp]
  simp [eVar_run]
/-- the law's own sum -/
theorem law_sum_ok {v : D} {rows : List (List Int)} {y : List Int} {w : Nat} (h : RR rows w) (hv : Sq v y) (hy : y.length = rows.length) : f__law_sum [.lst (encR rows), v] [] = .ok (tI (sumL rows y w)) [] := by
  have v1 : ∀ μ, vOf (some (some v)) μ = .ok v μ := fun μ => hv.vo
  obtain ⟨r0, hr0, c0⟩ := h.at
  have i0 : gIx (.lst (encR rows)) (.int 0) [] = some (tI r0) := by
    have := ix_nat (x := .lst (encR rows)) (k := 0) (μ := []) rfl
    rw [List.getElem?_map, hr0] at this
    exact this
  have el : (r0.length : Int) = (w : Int) := by rw [c0.1]
  have w2 : (w : Int) ≤ 1000000 := by have := h.w2; omega
  have rr := range1_run (mr := aCons (eAs gLen (aCons (e2 gIx (eVar 0) (eC (.int 0))) aNil)) aNil) (δ := [some (.lst (encR rows)), some v, none, none]) (μ := []) (μ1 := []) (n := w) (by simp [eVar_run, i0, el]) w2
  have inner : ∀ c : Nat, c < w → lcL (gNm 3) tYesM (e2 gIx (eVar 3) (eVar 2)) [some (.lst (encR rows)), some v, some (.int (c : Int)), none] (encR rows) [] = .ok ((colOf rows c).map D.int) [] := fun c hc => by
    rw [lcL_map (e := tI) (f := fun r => D.int (at0 r c)) rows fun r hr => by
      have : gIx (tI r) (.int (c : Int)) [] = some (.int (at0 r c)) := by
        have cr := h.r r hr
        have := ix_nat (x := tI r) (k := c) (μ := []) rfl
        rw [List.getElem?_map, List.getElem?_eq_getElem (by rw [cr.1]; exact hc)] at this
        rw [this, at0_lt (by rw [cr.1]; exact hc)]
        rfl
      simp [eVar_run, this]]
    rw [colOf, List.map_map]
    rfl
  have cl : ∀ c : Nat, Cells (colOf rows c) := fun c x hx => by
    obtain ⟨r, hr, rfl⟩ := List.mem_map.mp hx
    exact cell_at (h.r r hr)
  have n2 := h.n2
  have szi : ∀ c : Nat, ((colOf rows c).map D.int).length ≤ sizeLine := fun c => szN (by simp [colOf]; omega)
  have outer : lcL (gNm 2) tYesM (eCallP f__law_product (aCons (eLc (iSeq (eVar 0)) (gNm 3) tYesM (e2 gIx (eVar 3) (eVar 2)) [3]) (aCons (eVar 1) aNil))) [some (.lst (encR rows)), some v, none, none] ((List.range w).map fun (k : Nat) => .int (k : Int)) [] = .ok ((List.range w).map fun c => D.int (prod (colOf rows c) y)) [] :=
    lcL_map (e := fun (k : Nat) => D.int (k : Int)) (f := fun c => D.int (prod (colOf rows c) y)) (List.range w) fun c hc => by
      rw [List.mem_range] at hc
      have p := lprod_c (.l (colOf rows c)) hv (cl c) (by simp [colOf]; omega) []
      have i := inner c hc
      have sz := szi c
      generalize (colOf rows c).map D.int = zs at i sz p
      simp [eVar_run, v1, wipeD, i, sz, p]
  have sz : ((List.range w).map fun c => D.int (prod (colOf rows c) y)).length ≤ sizeLine := szN (by simp; omega)
  have fe : ((List.range w).map fun c => D.int (prod (colOf rows c) y)) = (sumL rows y w).map D.int := by rw [sumL, List.map_map]; rfl
  rw [fe] at outer sz
  simp only [tI]
  refine body_ret (δ := [some (.lst (encR rows)), some v, none, none]) rfl ?_
  unfold m__law_sum
  simp only [sRet_run, eAs_run, aCons_run, aNil_run, eLc_run]
  rw [rr]
  generalize (sumL rows y w).map D.int = zs at outer sz
  simp [wipeD, outer, sz]
end K04

set_option Elab.async false
set_option linter.all false
set_option maxRecDepth 100000
namespace K04
open PySem PySem.Spec PyProof.Rows L2 Kw
/-! ### the steps, as the program takes them -/
theorem times_c {a b : Int} (h : 0 ≤ b ∧ b < 257) (μ : Mem) : callP f_times [.int a, .int b] μ = .ok (.int (a * b % 257)) μ := callP_ok (μ' := []) (by
  unfold f_times bodyM m_times
  simp [eVar_run, gMul_c' h, d_CELL, gMod_int]) rfl rfl
theorem invG_cell : ∀ (n : Nat) (f s : Int), 0 ≤ f ∧ f < 257 → 0 ≤ invG n f s ∧ invG n f s < 257
  | 0, f, s, h => h
  | n + 1, f, s, h => invG_cell n _ _ (cells_mod _)
theorem inv_loop {c : D} : ∀ (items : List D) (f s : Int) (o : Option D), (0 ≤ f ∧ f < 257) → (0 ≤ s ∧ s < 257) →
    ∃ s' o', loopS (gNm 3) (sPar 1 2 (aCons (eCallP f_times (aCons (eVar 1) (aCons (eVar 2) aNil))) (aCons (eCallP f_times (aCons (eVar 2) (aCons (eVar 2) aNil))) aNil))) items [some c, some (.int f), some (.int s), o] [] = .nx [some c, some (.int (invG items.length f s)), some (.int s'), o'] []
  | [], f, s, o, _, _ => ⟨s, o, rfl⟩
  | d :: ds, f, s, o, hf, hs => by
    obtain ⟨s', o', ih⟩ := inv_loop ds (f * s % 257) (s * s % 257) (some d) (cells_mod _) (cells_mod _)
    refine ⟨s', o', ?_⟩
    rw [loopS_nx (δ1 := [some c, some (.int f), some (.int s), some d]) (μ1 := []) (δ2 := [some c, some (.int (f * s % 257)), some (.int (s * s % 257)), some d]) (μ2 := []) rfl (by simp [eVar_run, times_c hs]), ih]
    rfl
theorem inverse_c {c : Int} (h0 : 0 < c) (h1 : c < 257) (μ : Mem) : callP f_inverse [.int c] μ = .ok (.int (inv c)) μ := callP_ok (μ' := []) (by
  have hb := below_c (.int c) []
  have cb : cellB (.int c) = true := by simp [cellB, h1]; omega
  obtain ⟨s', o', lp⟩ := inv_loop (c := .int c) ((List.range 8).map fun (k : Nat) => D.int (k : Int)) 1 c none (by omega) (by omega)
  have r8 := range1_run (mr := aCons (eC d_BITS) aNil) (δ := [some (.int c), some (.int 1), some (.int c), none]) (μ := []) (μ1 := []) (n := 8) rfl (by decide)
  have ne : (c == 0) = false := by simpa using (by omega : c ≠ 0)
  unfold f_inverse bodyM m_inverse
  simp [eVar_run, d_CELL, hb, cb, ne, r8, lp]
  rfl) rfl rfl
theorem unit_c {n i : Nat} (hn : n ≤ 1000) (μ : Mem) : callP f_unit [.int (n : Int), .int (i : Int)] μ = .ok (tI (unitL n i)) μ := callP_ok (μ' := []) (by
  have rr := range1_run (mr := aCons (eVar 0) aNil) (δ := [some (.int (n : Int)), some (.int (i : Int)), none]) (μ := []) (μ1 := []) (n := n) rfl (by omega)
  have lc : lcL (gNm 2) tYesM (eAs gInt (aCons (e2 gEq (eVar 2) (eVar 1)) aNil)) [some (.int (n : Int)), some (.int (i : Int)), none] ((List.range n).map fun (k : Nat) => .int (k : Int)) [] = .ok ((List.range n).map fun k => D.int (if k = i then 1 else 0)) [] :=
    lcL_map (e := fun (k : Nat) => D.int (k : Int)) (f := fun k => D.int (if k = i then 1 else 0)) (List.range n) fun k _ => by
      by_cases e : k = i
      · subst e; simp [eVar_run]
      · have : ((k : Int) == (i : Int)) = false := by simpa using (by omega : ¬ (k : Int) = (i : Int))
        simp [eVar_run, this, e]
  have fe : ((List.range n).map fun k => D.int (if k = i then 1 else 0)) = (unitL n i).map D.int := by rw [unitL, List.map_map]; rfl
  rw [fe] at lc
  have sz : ((unitL n i).map D.int).length ≤ sizeLine := szN (by simp [unitL]; omega)
  simp only [tI]
  refine body_ret (δ := [some (.int (n : Int)), some (.int (i : Int)), none]) rfl ?_
  unfold m_unit
  simp only [sRet_run, eAs_run, eLc_run, rr, aCons_run, aNil_run]
  generalize (unitL n i).map D.int = zs at lc sz
  simp [wipeD, lc, sz]) (by rfl) (loc_tI _ _ _)
theorem first_loop {x : Option D} : ∀ (r : List Int) (k c : Nat) (o1 o2 : Option D), (∀ c', c' < c → at0 r c' = 0) → at0 r c ≠ 0 →
    loopS (gSeq 2 (gsCons (gNm 1) (gsCons (gNm 2) gsNil))) (sIf (tBl (e2 gNe (eVar 2) (eC (.int 0)))) (sRet (eVar 1)) sNext) (enumD k (r.map D.int)) [x, o1, o2] [] = .ret (.int ((k + c : Nat) : Int)) []
  | [], k, c, o1, o2, _, h => absurd (by simp [at0]) h
  | a :: r, k, 0, o1, o2, _, h => by
    have ne : (a == 0) = false := by simpa [at0] using h
    exact loopS_ret (δ1 := [x, some (.int (k : Int)), some (.int a)]) (μ1 := []) rfl (by simp [eVar_run, ne])
  | a :: r, k, c + 1, o1, o2, h0, h => by
    have za : a = 0 := by simpa [at0] using h0 0 (by omega)
    have ih := first_loop (x := x) r (k + 1) c (some (.int (k : Int))) (some (.int a)) (fun c' hc' => by simpa [at0] using h0 (c' + 1) (by omega)) (by simpa [at0] using h)
    rw [List.map_cons, enumD, loopS_nx (δ1 := [x, some (.int (k : Int)), some (.int a)]) (μ1 := []) (δ2 := [x, some (.int (k : Int)), some (.int a)]) (μ2 := []) rfl (by simp [eVar_run, za]), ih]
    congr 3
    omega
theorem first_c {r : List Int} {c : Nat} (h0 : ∀ c', c' < c → at0 r c' = 0) (h : at0 r c ≠ 0) (μ : Mem) : callP f_first_column [tI r] μ = .ok (.int (c : Int)) μ := callP_ok (μ' := []) (by
  have lp := first_loop (x := some (tI r)) r 0 c none none h0 h
  rw [Nat.zero_add] at lp
  unfold f_first_column bodyM m_first_column
  simp [eVar_run]
  rw [lp]
  rfl) (by simp [locBs, loc_tI]) rfl
theorem ix_row {r : List Int} {c : Nat} (h : c < r.length) (μ : Mem) : gIx (tI r) (.int (c : Int)) μ = some (.int (at0 r c)) := by
  have := ix_nat (x := tI r) (k := c) (μ := μ) rfl
  rw [List.getElem?_map, List.getElem?_eq_getElem h] at this
  rw [this, at0_lt h]
  rfl
theorem ix_enc0 (p : P) (μ : Mem) : gIx (enc p) (.int 0) μ = some (tI p.1) := ix_nat (x := enc p) (k := 0) rfl
theorem ix_enc1 (p : P) (μ : Mem) : gIx (enc p) (.int 1) μ = some (tI p.2) := ix_nat (x := enc p) (k := 1) rfl
theorem cleared_c {p q : P} {w n col : Nat} (p1 : Cl w p.1) (q1 : Cl w q.1) (p2 : Cl n p.2) (q2 : Cl n q.2) (hw : w ≤ 1000) (hn : n ≤ 1000) (hc : col < w) (μ : Mem) : callP f_cleared [enc p, .int (col : Int), tI q.1, tI q.2] μ = .ok (enc (clr col q p)) μ := callP_ok (μ' := []) (by
  have e0 := ix_enc0 p []
  have e1 := ix_enc1 p []
  have r0 := ix_row (r := p.1) (c := col) (by rw [p1.1]; exact hc) []
  have m1 := mixed_c (r := p.1) (c := 257 - at0 p.1 col) q1.2 (by rw [p1.1]; exact hw) []
  have m2 := mixed_c (r := p.2) (c := 257 - at0 p.1 col) q2.2 (by rw [p2.1]; exact hn) []
  unfold f_cleared bodyM m_cleared
  simp [eVar_run, d_CELL, e0, e1, r0, m1, m2, gTupD_run]
  exact ⟨rfl, rfl⟩) (by simp [locBs, loc_tI, loc_enc]; rfl) (loc_enc _ _ _)
end K04

set_option Elab.async false
set_option linter.all false
set_option maxRecDepth 100000
namespace K04
open PySem PySem.Spec PyProof.Rows L2 Kw
def nz (col : Nat) (p : P) : Bool := !(at0 p.1 col == 0)
abbrev foundE : EM := (eLcN false (nEnu (aCons (eVar 1) aNil)) (gSeq 2 (gsCons (gNm 8) (gsCons (gSeq 2 (gsCons (gNm 5) (gsCons (gNm 6) gsNil))) gsNil))) (tBl (e2 gNe (e2 gIx (eVar 5) (eVar 3)) (eC (.int 0)))) (eVar 8) [8, 5, 6])
abbrev stepB : SM := (sSeq (sAsg foundE (gNm 4)) (sSeq (sIf (tBl (e2 gEq (eAs gLen (aCons (eVar 4) aNil)) (eC (.int 0)))) sCont sNext) (sSeq (sAsg (eMtL gPop (eVar 1) (aCons (e2 gIx (eVar 4) (eC (.int 0))) aNil)) (gSeq 2 (gsCons (gNm 5) (gsCons (gNm 6) gsNil)))) (sSeq (sAsg (eCallP f_inverse (aCons (e2 gIx (eVar 5) (eVar 3)) aNil)) (gNm 7)) (sSeq (sAsg (eAs gTupD (aCons (eAs gTuple (aCons (eLc (iSeq (eVar 5)) (gNm 9) tYesM (eCallP f_times (aCons (eVar 9) (aCons (eVar 7) aNil))) [9]) aNil)) (aCons (eAs gTuple (aCons (eLc (iSeq (eVar 6)) (gNm 9) tYesM (eCallP f_times (aCons (eVar 9) (aCons (eVar 7) aNil))) [9]) aNil)) aNil))) (gSeq 2 (gsCons (gNm 5) (gsCons (gNm 6) gsNil)))) (sSeq (sAsg (eLcN true (nLoc (eVar 1)) (gNm 10) tYesM (eCallP f_cleared (aCons (eVar 10) (aCons (eVar 3) (aCons (eVar 5) (aCons (eVar 6) aNil))))) [10]) (gNm 1)) (sAsg (e2 gAdd (eLc (iSeq (eVar 2)) (gNm 10) tYesM (eCallP f_cleared (aCons (eVar 10) (aCons (eVar 3) (aCons (eVar 5) (aCons (eVar 6) aNil))))) [10]) (eAs gLstD (aCons (eAs gTupD (aCons (eVar 5) (aCons (eVar 6) aNil))) aNil))) (gNm 2))))))))
abbrev sl11 (rows : List (List Int)) (l : Nat) (steps : List P) (o3 o4 o5 o6 o7 o8 o9 o10 : Option D) : Sv := [some (.tup (encR rows)), some (.loc l), some (.lst (steps.map enc)), o3, o4, o5, o6, o7, o8, o9, o10]
def StI (rows : List (List Int)) (w j : Nat) (δ : Sv) (μ : Mem) : Prop := ∃ left steps piv l o3 o4 o5 o6 o7 o8 o9 o10, GI rows w j left steps piv ∧ μ[l]? = some (.lst (left.map enc)) ∧ δ = sl11 rows l steps o3 o4 o5 o6 o7 o8 o9 o10
theorem found_ok {rows : List (List Int)} {w j l : Nat} {left steps : List P} {piv : List Nat} (hr : RR rows w) (hj : j < w) (g : GI rows w j left steps piv) {μ : Mem} (hl : μ[l]? = some (.lst (left.map enc))) (o4 o5 o6 o7 o8 o9 o10 : Option D) :
    foundE (sl11 rows l steps (some (.int (j : Int))) o4 o5 o6 o7 o8 o9 o10) μ = .ok (.lst (((left.zipIdx 0).filter fun p => nz j p.1).map fun p => D.int (p.2 : Int))) μ := by
  have ll : left.length ≤ 40 := by have := g.cnt; have := hr.n2; omega
  have hlc := lcN_map (e := fun k a => D.tup [.int ((k : Nat) : Int), enc a]) (nx := nxEnu l) (g := gSeq 2 (gsCons (gNm 8) (gsCons (gSeq 2 (gsCons (gNm 5) (gsCons (gNm 6) gsNil))) gsNil))) (mt := (tBl (e2 gNe (e2 gIx (eVar 5) (eVar 3)) (eC (.int 0))))) (me := eVar 8) (δ := sl11 rows l steps (some (.int (j : Int))) o4 none none o7 none o9 o10) (μ := μ) (t := fun _ a => nz j a) (f := fun k _ => D.int ((k : Nat) : Int)) (n := left.length) (by simp [nxEnu, hl]) left 0 (left.length + 1) (by omega) (by omega) (fun k a ha => by
    have hjl := (List.getElem?_eq_some_iff.mp ha).1
    have ra := (g.sh a (.inl (List.mem_of_getElem? ha))).1
    have ix := ix_row (r := a.1) (c := j) (by rw [ra.1]; exact hj) μ
    refine ⟨by simp [nxEnu, hl, ha]; omega, sl11 rows l steps (some (.int (j : Int))) o4 (some (tI a.1)) (some (tI a.2)) o7 (some (.int ((0 + k : Nat) : Int))) o9 o10, rfl, ?_, fun _ => rfl⟩
    simp [eVar_run, ix, nz])
  have hn : nEnu (aCons (eVar 1) aNil) (sl11 rows l steps (some (.int (j : Int))) o4 o5 o6 o7 o8 o9 o10) μ = .ok (nxEnu l, left.length + 1) μ := by simp [nEnu, eVar_run, hl]
  have sz : (((left.zipIdx 0).filter fun p => nz j p.1).map fun p => D.int (p.2 : Int)).length ≤ sizeLine := szN (by
    rw [List.length_map]
    refine Nat.le_trans (List.length_filter_le _ _) ?_
    simp; omega)
  unfold foundE eLcN
  rw [hn]
  simp only [bind_ok]
  have hw : wipeD (sl11 rows l steps (some (.int (j : Int))) o4 o5 o6 o7 o8 o9 o10) [8, 5, 6] = sl11 rows l steps (some (.int (j : Int))) o4 none none o7 none o9 o10 := rfl
  rw [hw, hlc]
  simp only
  rw [if_pos sz]
  rfl
theorem scl_lc {r : List Int} {t : Int} (ht : 0 ≤ t ∧ t < 257) {δ : Sv} {i j : Nat} (hi : i < δ.length) (hij : i ≠ j) (hj : δ[j]? = some (some (.int t))) (μ : Mem) : lcL (gNm i) tYesM (eCallP f_times (aCons (eVar i) (aCons (eVar j) aNil))) δ (r.map D.int) μ = .ok ((scl t r).map D.int) μ := by
  rw [lcL_map (e := D.int) (f := fun x => D.int (x * t % 257)) r fun x _ => by
    have v1 : eVar i (δ.set i (some (.int x))) μ = .ok (.int x) μ := by rw [eVar_run, List.getElem?_set_self hi]; rfl
    have v2 : eVar j (δ.set i (some (.int x))) μ = .ok (.int t) μ := by rw [eVar_run, List.getElem?_set_ne hij, hj]; rfl
    simp [v1, v2, times_c ht]]
  rw [scl, List.map_map]
  rfl
theorem turn_ok {rows : List (List Int)} {w j l : Nat} {left steps : List P} {piv : List Nat} (hr : RR rows w) (hj : j < w) (g : GI rows w j left steps piv) {μ : Mem} (hl : μ[l]? = some (.lst (left.map enc))) (o4 o5 o6 o7 o8 o9 o10 : Option D) :
    ∃ δ2 μ2, (stepB (sl11 rows l steps (some (.int (j : Int))) o4 o5 o6 o7 o8 o9 o10) μ = .nx δ2 μ2 ∨ stepB (sl11 rows l steps (some (.int (j : Int))) o4 o5 o6 o7 o8 o9 o10) μ = .ct δ2 μ2) ∧ StI rows w (j + 1) δ2 μ2 := by
  have n2 := hr.n2
  have w2 := hr.w2
  have ll : left.length ≤ 40 := by have := g.cnt; omega
  have sl : steps.length ≤ 40 := by have := g.cnt; omega
  have fo := found_ok hr hj g hl o4 o5 o6 o7 o8 o9 o10
  unfold stepB
  rw [seq_nx (m1 := sAsg foundE (gNm 4)) (δ1 := sl11 rows l steps (some (.int (j : Int))) (some (.lst (((left.zipIdx 0).filter fun p => nz j p.1).map fun p => D.int (p.2 : Int)))) o5 o6 o7 o8 o9 o10) (μ1 := μ) (by rw [sAsg_run, fo]; rfl)]
  cases hF : (left.zipIdx 0).filter fun p => nz j p.1 with
  | nil =>
    refine ⟨sl11 rows l steps (some (.int (j : Int))) (some (.lst [])) o5 o6 o7 o8 o9 o10, μ, .inr ?_, left, steps, piv, l, _, _, _, _, _, _, _, _, g.skip fun p hp => ?_, hl, rfl⟩
    · simp [eVar_run]
    · obtain ⟨i, hi⟩ := List.mem_iff_getElem?.mp hp
      have := List.filter_eq_nil_iff.mp hF (p, i) (List.mem_zipIdx_iff_getElem?.mpr hi)
      simpa [nz] using this
  | cons q F =>
    have hq : q ∈ (left.zipIdx 0).filter fun p => nz j p.1 := by rw [hF]; exact List.mem_cons_self
    obtain ⟨hq1, hq2⟩ := List.mem_filter.mp hq
    have hk : left[q.2]? = some q.1 := List.mem_zipIdx_iff_getElem?.mp hq1
    have hnz : at0 q.1.1 j ≠ 0 := by simpa [nz] using hq2
    obtain ⟨p0, k⟩ := q
    simp only at hk hnz
    have m0 : p0 ∈ left := List.mem_of_getElem? hk
    obtain ⟨s1, s2⟩ := g.sh p0 (.inl m0)
    have hc := cell_at (k := j) s1
    have iv := inverse_c (c := at0 p0.1 j) (by omega) hc.2
    obtain ⟨i1, i2, i3⟩ := inv_ok (c := at0 p0.1 j) (by omega) hc.2
    have hkl : k < left.length := (List.getElem?_eq_some_iff.mp hk).1
    have hlt : l < μ.length := (List.getElem?_eq_some_iff.mp hl).1
    have pop := pop_at (l := l) (k := k) (μ := μ) (x := enc p0) hl (by rw [List.getElem?_map, hk]; rfl) (by omega)
    rw [map_eraseI] at pop
    obtain ⟨μ1, hμ1⟩ : ∃ μ1 : Mem, μ1 = μ.set l (.lst ((left.eraseIdx k).map enc)) := ⟨_, rfl⟩
    rw [← hμ1] at pop
    have hl1 : μ1[l]? = some (.lst ((left.eraseIdx k).map enc)) := by rw [hμ1]; exact List.getElem?_set_self hlt
    have G := g.step hj hk hnz
    generalize ht : inv (at0 p0.1 j) = t at *
    have ht' : 0 ≤ t ∧ t < 257 := ⟨i2, i3⟩
    have q1 : Cl w (scl t p0.1) := scl_cl s1.1
    have q2 : Cl rows.length (scl t p0.2) := scl_cl s2.1
    have lx : lstX μ (.loc l) = some (left.map enc) := by simp [lstX, hl]
    have i0 : gIx (.lst (D.int (k : Int) :: F.map fun p => D.int (p.2 : Int))) (.int 0) μ = some (.int (k : Int)) := ix_nat (xs := D.int (k : Int) :: F.map fun p => D.int (p.2 : Int)) (k := 0) (μ := μ) rfl
    have ix := ix_row (r := p0.1) (c := j) (by rw [s1.1]; exact hj) μ1
    have em : ∀ p, p ∈ left.eraseIdx k → p ∈ left := fun p hp => List.mem_of_mem_eraseIdx hp
    refine ⟨sl11 rows μ1.length (steps.map (clr j (scP t p0)) ++ [scP t p0]) (some (.int (j : Int))) (some (.lst (D.int (k : Int) :: F.map fun p => D.int (p.2 : Int)))) (some (tI (scl t p0.1))) (some (tI (scl t p0.2))) (some (.int t)) o8 o9 o10, μ1 ++ [.lst (((left.eraseIdx k).map (clr j (scP t p0))).map enc)], .inl ?_, _, _, _, μ1.length, _, _, _, _, _, _, _, _, G, by simp, rfl⟩
    rw [List.map_cons, seq_nx (δ1 := sl11 rows l steps (some (.int (j : Int))) (some (.lst (D.int (k : Int) :: F.map fun p => D.int (p.2 : Int)))) o5 o6 o7 o8 o9 o10) (μ1 := μ) (by
      have : ¬ ((F.length : Int) + 1 = 0) := by omega
      simp [eVar_run, this])]
    rw [seq_nx (δ1 := sl11 rows l steps (some (.int (j : Int))) (some (.lst (D.int (k : Int) :: F.map fun p => D.int (p.2 : Int)))) (some (tI p0.1)) (some (tI p0.2)) o7 o8 o9 o10) (μ1 := μ1) (by
      rw [sAsg_run, mtL_pop (l := l) (xs := left.map enc) (as := [.int (k : Int)]) (μ2 := μ) rfl hl (by simp [eVar_run, i0]) pop]
      rfl)]
    rw [seq_nx (δ1 := sl11 rows l steps (some (.int (j : Int))) (some (.lst (D.int (k : Int) :: F.map fun p => D.int (p.2 : Int)))) (some (tI p0.1)) (some (tI p0.2)) (some (.int t)) o8 o9 o10) (μ1 := μ1) (by
      simp [eVar_run, ix, iv])]
    have c1 := scl_lc (r := p0.1) ht' (δ := sl11 rows l steps (some (.int (j : Int))) (some (.lst (D.int (k : Int) :: F.map fun p => D.int (p.2 : Int)))) (some (tI p0.1)) (some (tI p0.2)) (some (.int t)) o8 none o10) (i := 9) (j := 7) (by simp) (by decide) rfl μ1
    have c2 := scl_lc (r := p0.2) ht' (δ := sl11 rows l steps (some (.int (j : Int))) (some (.lst (D.int (k : Int) :: F.map fun p => D.int (p.2 : Int)))) (some (tI p0.1)) (some (tI p0.2)) (some (.int t)) o8 none o10) (i := 9) (j := 7) (by simp) (by decide) rfl μ1
    have z1 : ((scl t p0.1).map D.int).length ≤ sizeLine := szN (by have := q1.1; simp; omega)
    have z2 : ((scl t p0.2).map D.int).length ≤ sizeLine := szN (by have := q2.1; simp; omega)
    rw [seq_nx (δ1 := sl11 rows l steps (some (.int (j : Int))) (some (.lst (D.int (k : Int) :: F.map fun p => D.int (p.2 : Int)))) (some (tI (scl t p0.1))) (some (tI (scl t p0.2))) (some (.int t)) o8 o9 o10) (μ1 := μ1) (by
      simp only [sl11] at c1 c2
      simp only [tI]
      generalize (scl t p0.1).map D.int = z1s at c1 z1 ⊢
      generalize (scl t p0.2).map D.int = z2s at c2 z2 ⊢
      simp [eVar_run, wipeD, c1, c2, z1, z2, gTupD_run])]
    have cl : ∀ (p : P) (μ : Mem), p ∈ left ∨ p ∈ steps → callP f_cleared [enc p, .int (j : Int), tI (scl t p0.1), tI (scl t p0.2)] μ = .ok (enc (clr j (scP t p0) p)) μ := fun p μ hp => by
      obtain ⟨a, b⟩ := g.sh p hp
      exact cleared_c (q := scP t p0) a q1 b q2 (by omega) (by omega) hj μ
    have L1 := loc_map' (e := enc) (pl := true) (me := (eCallP f_cleared (aCons (eVar 10) (aCons (eVar 3) (aCons (eVar 5) (aCons (eVar 6) aNil)))))) (δ := sl11 rows l steps (some (.int (j : Int))) (some (.lst (D.int (k : Int) :: F.map fun p => D.int (p.2 : Int)))) (some (tI (scl t p0.1))) (some (tI (scl t p0.2))) (some (.int t)) o8 o9 o10) (μ := μ1) (f := fun p => enc (clr j (scP t p0) p)) (i := 10) (j := 1) (l := l) (xs := left.eraseIdx k) rfl hl1 (by have := List.length_eraseIdx_le left k; omega) (by simp) fun p hp => by
        have := cl p μ1 (.inl (em p hp))
        simp [eVar_run, this]
    rw [if_pos rfl] at L1
    rw [seq_nx (δ1 := sl11 rows μ1.length steps (some (.int (j : Int))) (some (.lst (D.int (k : Int) :: F.map fun p => D.int (p.2 : Int)))) (some (tI (scl t p0.1))) (some (tI (scl t p0.2))) (some (.int t)) o8 o9 o10) (μ1 := μ1 ++ [.lst (((left.eraseIdx k).map (clr j (scP t p0))).map enc)]) (by
      rw [sAsg_run, L1, List.map_map]
      rfl)]
    have c3 : lcL (gNm 10) tYesM (eCallP f_cleared (aCons (eVar 10) (aCons (eVar 3) (aCons (eVar 5) (aCons (eVar 6) aNil))))) (sl11 rows μ1.length steps (some (.int (j : Int))) (some (.lst (D.int (k : Int) :: F.map fun p => D.int (p.2 : Int)))) (some (tI (scl t p0.1))) (some (tI (scl t p0.2))) (some (.int t)) o8 o9 none) (steps.map enc) (μ1 ++ [.lst (((left.eraseIdx k).map (clr j (scP t p0))).map enc)]) = .ok (steps.map fun p => enc (clr j (scP t p0) p)) (μ1 ++ [.lst (((left.eraseIdx k).map (clr j (scP t p0))).map enc)]) :=
      lcL_map (e := enc) (f := fun p => enc (clr j (scP t p0) p)) steps fun p hp => by
        have := cl p (μ1 ++ [.lst (((left.eraseIdx k).map (clr j (scP t p0))).map enc)]) (.inr hp)
        generalize (μ1 ++ [.lst (((left.eraseIdx k).map (clr j (scP t p0))).map enc)]) = μ2 at this ⊢
        simp [eVar_run, this]
    have z3 : (steps.map fun p => enc (clr j (scP t p0) p)).length ≤ sizeLine := szN (by simp; omega)
    generalize (μ1 ++ [.lst (((left.eraseIdx k).map (clr j (scP t p0))).map enc)]) = μ2 at c3 ⊢
    have e9 : (steps.map (clr j (scP t p0)) ++ [scP t p0]).map enc = (steps.map fun p => enc (clr j (scP t p0) p)) ++ [enc (scP t p0)] := by
      rw [List.map_append, List.map_map]
      rfl
    have ad : gAdd (.lst (steps.map fun p => enc (clr j (scP t p0) p))) (.lst [enc (scP t p0)]) μ2 = some (.lst ((steps.map fun p => enc (clr j (scP t p0) p)) ++ [enc (scP t p0)])) := by
      have : (steps.map fun p => enc (clr j (scP t p0) p)).length + [enc (scP t p0)].length ≤ sizeLine := szN (by simp; omega)
      simp [gAdd, this]
      simpa using this
    simp only [sl11, e9] at c3 ⊢
    generalize (steps.map fun p => enc (clr j (scP t p0) p)) = zs at c3 z3 ad ⊢
    have tg : gTupD [tI (scl t p0.1), tI (scl t p0.2)] μ2 = some (enc (scP t p0)) := gTupD_run (by simp)
    have lg : gLstD [enc (scP t p0)] μ2 = some (.lst [enc (scP t p0)]) := gLstD_run (by simp)
    simp only [sAsg_run, e2_run, eLc_run, iSeq_run, eVar_run, eAs_run, aCons_run, aNil_run]
    simp [wipeD, c3, z3, tg, lg, ad]
end K04

set_option Elab.async false
set_option linter.all false
set_option maxRecDepth 100000
namespace K04
open PySem PySem.Spec PyProof.Rows L2 Kw
theorem rng_get {n k : Nat} {d : D} (h : ((List.range n).map fun (k : Nat) => D.int (k : Int))[k]? = some d) : k < n ∧ d = .int (k : Int) := by
  rw [List.getElem?_map] at h
  obtain ⟨i, hi, rfl⟩ := Option.map_eq_some_iff.mp h
  obtain ⟨h1, h2⟩ := List.getElem?_eq_some_iff.mp hi
  rw [List.getElem_range] at h2
  rw [List.length_range] at h1
  exact ⟨h1, by rw [← h2]⟩
theorem ix_rows0 {rows : List (List Int)} {w : Nat} (h : RR rows w) (μ : Mem) : ∃ r0, gIx (.tup (encR rows)) (.int 0) μ = some (tI r0) ∧ r0.length = w := by
  obtain ⟨r0, hr0, c0⟩ := h.at
  refine ⟨r0, ?_, c0.1⟩
  have := ix_nat (x := .tup (encR rows)) (k := 0) (μ := μ) rfl
  rw [List.getElem?_map, hr0] at this
  exact this
theorem loc_lencs (sc : Bool) (k : Nat) (ps : List P) : locBs sc k (ps.map enc) = true := loc_map ps fun a _ => loc_enc sc k a
abbrev sl0 (rows : List (List Int)) : Sv := [some (.tup (encR rows)), none, none, none, none, none, none, none, none, none, none]
theorem init_el {rs : List D} {fu : FM} {n : Nat} (k : Nat) (r d : D) (t : List D) (u : callP fu [.int (n : Int), .int (k : Int)] [] = .ok (.tup t) []) (gl : (rs.length : Int) = (n : Int)) (hr : ∀ μ, vOf (some (some r)) μ = .ok r μ) (tg : gTupD [r, .tup t] [] = some d) : (eAs gTupD (aCons (eVar 5) (aCons (eCallP fu (aCons (eAs gLen (aCons (eVar 0) aNil)) (aCons (eVar 8) aNil))) aNil))) [some (.tup rs), none, none, none, none, some r, none, none, some (.int ((k : Nat) : Int)), none, none] [] = .ok d [] := by
  simp [eVar_run, gl, u, hr, tg]
theorem init_lc {rows : List (List Int)} {w : Nat} (h : RR rows w) : lcL (gSeq 2 (gsCons (gNm 8) (gsCons (gNm 5) gsNil))) tYesM (eAs gTupD (aCons (eVar 5) (aCons (eCallP f_unit (aCons (eAs gLen (aCons (eVar 0) aNil)) (aCons (eVar 8) aNil))) aNil))) (sl0 rows) (enumD 0 (encR rows)) [] = .ok ((start rows.length rows).map enc) [] := by
  have n2 := h.n2
  rw [lcL_enum (e := tI) (f := fun k r => enc (r, unitL rows.length k)) rows 0 fun k r hk => by
    exact init_el (rs := encR rows) (fu := f_unit) (n := rows.length) (0 + k) (tI r) (enc (r, unitL rows.length (0 + k))) ((unitL rows.length (0 + k)).map D.int) (unit_c (n := rows.length) (i := 0 + k) (by omega) []) (by rw [List.length_map]) (fun _ => rfl) (gTupD_run (by simp))]
  rw [start, List.map_map]
  rfl
abbrev initE : EM := (eLcN true (nOf (iEnu (aCons (eVar 0) aNil))) (gSeq 2 (gsCons (gNm 8) (gsCons (gNm 5) gsNil))) tYesM (eAs gTupD (aCons (eVar 5) (aCons (eCallP f_unit (aCons (eAs gLen (aCons (eVar 0) aNil)) (aCons (eVar 8) aNil))) aNil))) [8, 5])
theorem init_ok {rows : List (List Int)} {w : Nat} (h : RR rows w) : initE (sl0 rows) [] = .ok (.loc 0) [.lst ((start rows.length rows).map enc)] := by
  have c := init_lc h
  have z0 : ((start rows.length rows).map enc).length ≤ sizeLine := szN (by have := h.n2; simp [start]; omega)
  unfold initE
  rw [eLcN_fix]
  simp only [sl0] at *
  generalize (start rows.length rows).map enc = ss at c z0
  generalize encR rows = rs at c
  simp [eVar_run, wipeD, c, z0]
theorem rng_len (w : Nat) : ((List.range w).map fun (k : Nat) => D.int (k : Int)).length = w := by simp
theorem loop_ok {rows : List (List Int)} {w : Nat} (h : RR rows w) {δ : Sv} {μ : Mem} (h0 : StI rows w 0 δ μ) : ∃ δ' μ', loopS (gNm 3) stepB ((List.range w).map fun (k : Nat) => .int (k : Int)) δ μ = .nx δ' μ' ∧ StI rows w w δ' μ' := by
  obtain ⟨δ', μ', e, I⟩ := loopS_at (g := gNm 3) (b := stepB) (I := StI rows w) ((List.range w).map fun (k : Nat) => .int (k : Int)) 0 (δ := δ) (μ := μ) (fun k d δ μ hk hI => by
    obtain ⟨hk', rfl⟩ := rng_get hk
    obtain ⟨left, steps, piv, l, o3, o4, o5, o6, o7, o8, o9, o10, g, hl, rfl⟩ := hI
    rw [Nat.zero_add] at g ⊢
    obtain ⟨δ2, μ2, e, I2⟩ := turn_ok h hk' g hl o4 o5 o6 o7 o8 o9 o10
    exact ⟨_, δ2, μ, μ2, rfl, e, I2⟩) h0
  rw [rng_len, Nat.zero_add] at I
  exact ⟨δ', μ', e, I⟩
theorem steps_run {rows : List (List Int)} {w : Nat} (h : RR rows w) : ∃ left steps piv μ', GI rows w w left steps piv ∧ f_steps_and_rest [.tup (encR rows)] [] = .ok (.tup [.lst (steps.map enc), .lst (left.map enc)]) μ' := by
  have w2 := h.w2
  obtain ⟨r0, i0, l0⟩ := ix_rows0 h [.lst ((start rows.length rows).map enc)]
  have rr : iRange1 (aCons (eAs gLen (aCons (e2 gIx (eVar 0) (eC (.int 0))) aNil)) aNil) (sl11 rows 0 [] none none none none none none none none) [.lst ((start rows.length rows).map enc)] = .ok ((List.range w).map fun (k : Nat) => .int (k : Int)) [.lst ((start rows.length rows).map enc)] := range1_run (by
    simp only [sl11]
    generalize (start rows.length rows).map enc = ss at i0 ⊢
    generalize encR rows = rs at i0 ⊢
    simp [eVar_run, i0, l0]) (by omega)
  obtain ⟨δ', μ', e, left, steps, piv, l, o3, o4, o5, o6, o7, o8, o9, o10, g, hl, rfl⟩ := loop_ok h (δ := sl11 rows 0 [] none none none none none none none none) (μ := [.lst ((start rows.length rows).map enc)]) ⟨start rows.length rows, [], [], 0, _, _, _, _, _, _, _, _, GI.init h.r, rfl, rfl⟩
  refine ⟨left, steps, piv, μ'.set l .gone, g, body_ret (δ := sl0 rows) rfl ?_⟩
  unfold m_steps_and_rest
  rw [seq_nx (δ1 := [some (.tup (encR rows)), some (.loc 0), none, none, none, none, none, none, none, none, none]) (μ1 := [.lst ((start rows.length rows).map enc)]) (by
    rw [sAsg_run, show eLcN _ _ _ _ _ _ _ _ = _ from init_ok h]
    rfl)]
  rw [seq_nx (δ1 := sl11 rows 0 [] none none none none none none none none) (μ1 := [.lst ((start rows.length rows).map enc)]) (by simp [eVar_run, gLstD_run])]
  rw [seq_nx (δ1 := sl11 rows l steps o3 o4 o5 o6 o7 o8 o9 o10) (μ1 := μ') (by rw [sFor_run, rr]; exact e)]
  have F : sFrz 1 (sl11 rows l steps o3 o4 o5 o6 o7 o8 o9 o10) μ' = .nx [some (.tup (encR rows)), some (.lst (left.map enc)), some (.lst (steps.map enc)), o3, o4, o5, o6, o7, o8, o9, o10] (μ'.set l .gone) := by
    unfold sFrz
    simp [hl]
  rw [seq_nx F]
  have tg : gTupD [.lst (steps.map enc), .lst (left.map enc)] (μ'.set l .gone) = some (.tup [.lst (steps.map enc), .lst (left.map enc)]) := gTupD_run (by simp)
  generalize left.map enc = ls at tg
  generalize steps.map enc = ss at tg
  simp [eVar_run, tg]
theorem steps_ok {rows : List (List Int)} {w : Nat} (h : RR rows w) : ∃ left steps piv, GI rows w w left steps piv ∧ ∀ μ, callP f_steps_and_rest [.tup (encR rows)] μ = .ok (.tup [.lst (steps.map enc), .lst (left.map enc)]) μ := by
  obtain ⟨left, steps, piv, μ', g, e⟩ := steps_run h
  exact ⟨left, steps, piv, g, fun μ => callP_ok e (by simp [locBs, locB, loc_encR]) (by simp [locB, locBs, loc_lencs])⟩
/-! ### reasons -/
theorem reasons_loop {n : Nat} {g : List Int} {a0 a1 a2 : Option D} (hn : n ≤ 1000) : ∀ (left : List P) (o4 o5 o6 o7 o8 : Option D), (∀ p ∈ left, Cl n p.2) →
    (∃ δ', loopS (gSeq 2 (gsCons (gNm 4) (gsCons (gNm 5) gsNil))) (sSeq (sAsg (eCallP f_product (aCons (eVar 5) (aCons (eVar 3) aNil))) (gNm 6)) (sIf (tBl (e2 gNe (eVar 6) (eC (.int 0)))) (sSeq (sAsg (eCallP f_inverse (aCons (eVar 6) aNil)) (gNm 7)) (sRet (eAs gTuple (aCons (eLc (iSeq (eVar 5)) (gNm 8) tYesM (eCallP f_times (aCons (eVar 8) (aCons (eVar 7) aNil))) [8]) aNil)))) sNext)) (left.map enc) [a0, a1, a2, some (tI g), o4, o5, o6, o7, o8] [] = .nx δ' []) ∨
    ∃ r, Cl n r ∧ loopS (gSeq 2 (gsCons (gNm 4) (gsCons (gNm 5) gsNil))) (sSeq (sAsg (eCallP f_product (aCons (eVar 5) (aCons (eVar 3) aNil))) (gNm 6)) (sIf (tBl (e2 gNe (eVar 6) (eC (.int 0)))) (sSeq (sAsg (eCallP f_inverse (aCons (eVar 6) aNil)) (gNm 7)) (sRet (eAs gTuple (aCons (eLc (iSeq (eVar 5)) (gNm 8) tYesM (eCallP f_times (aCons (eVar 8) (aCons (eVar 7) aNil))) [8]) aNil)))) sNext)) (left.map enc) [a0, a1, a2, some (tI g), o4, o5, o6, o7, o8] [] = .ret (tI r) []
  | [], o4, o5, o6, o7, o8, _ => .inl ⟨_, rfl⟩
  | p :: left, o4, o5, o6, o7, o8, h => by
    have hp := h p List.mem_cons_self
    have pr := prod_c (.t p.2) (.t g) hp.2 (by rw [hp.1]; exact hn) []
    have pc := prod_cell (a := p.2) (b := g)
    by_cases e : prod p.2 g = 0
    · have ih := reasons_loop (g := g) (a0 := a0) (a1 := a1) (a2 := a2) hn left (some (tI p.1)) (some (tI p.2)) (some (.int 0)) o7 o8 fun a ha => h a (List.mem_cons_of_mem _ ha)
      rw [e] at pr
      rw [List.map_cons, loopS_nx (δ1 := [a0, a1, a2, some (tI g), some (tI p.1), some (tI p.2), o6, o7, o8]) (μ1 := []) (δ2 := [a0, a1, a2, some (tI g), some (tI p.1), some (tI p.2), some (.int 0), o7, o8]) (μ2 := []) rfl (by simp [eVar_run, pr])]
      exact ih
    · right
      have iv := inverse_c (c := prod p.2 g) (by omega) pc.2 []
      obtain ⟨_, i2, i3⟩ := inv_ok (c := prod p.2 g) (by omega) pc.2
      refine ⟨scl (inv (prod p.2 g)) p.2, scl_cl hp.1, ?_⟩
      have lc := scl_lc (r := p.2) ⟨i2, i3⟩ (δ := [a0, a1, a2, some (tI g), some (tI p.1), some (tI p.2), some (.int (prod p.2 g)), some (.int (inv (prod p.2 g))), none]) (i := 8) (j := 7) (by simp) (by decide) rfl []
      have sz : ((scl (inv (prod p.2 g)) p.2).map D.int).length ≤ sizeLine := szN (by have := hp.1; simp [scl]; omega)
      have ne : (prod p.2 g == 0) = false := by simpa using e
      rw [List.map_cons]
      refine loopS_ret (δ1 := [a0, a1, a2, some (tI g), some (tI p.1), some (tI p.2), o6, o7, o8]) (μ1 := []) rfl ?_
      generalize prod p.2 g = c at *
      show _ = SOut.ret (.tup ((scl (inv c) p.2).map D.int)) []
      generalize (scl (inv c) p.2).map D.int = zs at lc sz
      simp [eVar_run, pr, ne, iv, wipeD, lc, sz]
theorem reasons_ok {rows : List (List Int)} {w : Nat} {g : List Int} (h : RR rows w) (hg : Cl rows.length g) (μ : Mem) : ∃ d, callP f_reasons [.lst (encR rows), tI g] μ = .ok d μ ∧ (d = .non ∨ ∃ r, d = tI r ∧ Cl rows.length r) := by
  have n2 := h.n2
  obtain ⟨left, steps, piv, G, st⟩ := steps_ok h
  have cr := check_rows_c h (.inl rfl) []
  have ck := check_row_c (.t g) hg (by omega) []
  have i1 : gIx (.tup [.lst (steps.map enc), .lst (left.map enc)]) (.int 1) [] = some (.lst (left.map enc)) := ix_nat (xs := [.lst (steps.map enc), .lst (left.map enc)]) (k := 1) (μ := []) rfl
  have st := st []
  have gl : ((encR rows).length : Int) = (rows.length : Int) := by simp
  have main : ∃ d, f_reasons [.lst (encR rows), tI g] [] = .ok d [] ∧ (d = .non ∨ ∃ r, d = tI r ∧ Cl rows.length r) := by
    rcases reasons_loop (n := rows.length) (g := g) (a0 := some (.lst (encR rows))) (a1 := some (tI g)) (a2 := some (.tup (encR rows))) (by omega) left none none none none none (fun p hp => (G.sh p (.inl hp)).2) with ⟨δ', lp⟩ | ⟨r, hr, lp⟩
    · refine ⟨.non, ?_, .inl rfl⟩
      unfold f_reasons bodyM m_reasons
      generalize encR rows = rs at *
      generalize left.map enc = ls at *
      generalize steps.map enc = ss at *
      simp [eVar_run, cr, gl, ck, st, i1, lp]
    · refine ⟨tI r, ?_, .inr ⟨r, rfl, hr⟩⟩
      unfold f_reasons bodyM m_reasons
      generalize encR rows = rs at *
      generalize left.map enc = ls at *
      generalize steps.map enc = ss at *
      simp [eVar_run, cr, gl, ck, st, i1, lp]
  obtain ⟨d, e, hd⟩ := main
  refine ⟨d, callP_ok e (by simp [locBs, locB, loc_encR, loc_ints]) ?_, hd⟩
  rcases hd with rfl | ⟨r, rfl, _⟩
  · rfl
  · exact loc_tI _ _ _
end K04

set_option Elab.async false
set_option linter.all false
set_option maxRecDepth 100000
namespace K04
open PySem PySem.Spec PyProof.Rows L2 Kw
/-! ### free rows -/
structure Fr (w : Nat) (steps : List P) (piv : List Nat) (free k : Nat) (r : List Int) : Prop where
  cl : Cl w r
  pv : ∀ j c p, piv[j]? = some c → steps[j]? = some p → at0 r c = if j < k then (257 - at0 p.1 free) % 257 else 0
  oth : ∀ c, c ∉ piv → at0 r c = if c = free then 1 else 0
theorem at0_set_self {x : List Int} {c : Nat} {v : Int} (h : c < x.length) : at0 (x.set c v) c = v := by
  simp [at0, List.getD_eq_getElem?_getD, h]
theorem at0_unit (n i c : Nat) : at0 (unitL n i) c = if c = i ∧ c < n then 1 else 0 := by
  by_cases h : c < n
  · rw [at0_lt (by simpa [unitL] using h)]
    simp [unitL, h]
  · rw [if_neg (by omega)]
    simp [at0, List.getD_eq_getElem?_getD, unitL, List.getElem?_eq_none, Nat.le_of_not_lt h]
theorem Fr.init {w : Nat} {steps : List P} {piv : List Nat} {free : Nat} (hf : free ∉ piv) (hw : free < w) : Fr w steps piv free 0 (unitL w free) where
  cl := unitL_cl
  pv := fun j c p hj _ => by
    have : c ≠ free := fun z => hf (z ▸ List.mem_of_getElem? hj)
    rw [at0_unit, if_neg (by omega), if_neg (by omega)]
  oth := fun c _ => by
    rw [at0_unit]
    by_cases e : c = free
    · subst e; rw [if_pos ⟨rfl, hw⟩, if_pos rfl]
    · rw [if_neg (by omega), if_neg e]
theorem Fr.next {rows : List (List Int)} {w : Nat} {left steps : List P} {piv : List Nat} {free k c : Nat} {r : List Int} {p : P} (G : GI rows w w left steps piv) (F : Fr w steps piv free k r) (hc : piv[k]? = some c) (hp : steps[k]? = some p) :
    Fr w steps piv free (k + 1) (r.set c ((257 - at0 p.1 free) % 257)) where
  cl := ⟨by simp [F.cl.1], fun z hz => by
    rcases List.mem_or_eq_of_mem_set hz with hz | rfl
    · exact F.cl.2 z hz
    · exact cells_mod _⟩
  pv := fun j d q hd hq => by
    have cw := (G.pv k c hc).1
    by_cases e : j = k
    · subst e
      rw [hc] at hd
      cases hd
      rw [hp] at hq
      cases hq
      rw [at0_set_self (by rw [F.cl.1]; exact cw), if_pos (by omega)]
    · have ne : c ≠ d := fun z => by subst z; exact e (G.apart hd hc)
      rw [at0_set ne, F.pv j d q hd hq]
      by_cases e2 : j < k
      · rw [if_pos e2, if_pos (by omega)]
      · rw [if_neg e2, if_neg (by omega)]
  oth := fun d hd => by
    have ne : c ≠ d := fun z => hd (z ▸ List.mem_of_getElem? hc)
    rw [at0_set ne]
    exact F.oth d hd
theorem zip_get {piv : List Nat} {steps : List P} {k : Nat} {d : D} (h : (zipD (piv.map fun c => D.int ((c : Nat) : Int)) (steps.map enc))[k]? = some d) : ∃ c p, piv[k]? = some c ∧ steps[k]? = some p ∧ d = .tup [.int (c : Int), enc p] := by
  obtain ⟨x, y, h1, h2, rfl⟩ := zipD_get _ _ _ h
  rw [List.getElem?_map] at h1 h2
  obtain ⟨c, hc, rfl⟩ := Option.map_eq_some_iff.mp h1
  obtain ⟨p, hp, rfl⟩ := Option.map_eq_some_iff.mp h2
  exact ⟨c, p, hc, hp, rfl⟩
abbrev encN (piv : List Nat) : List D := piv.map fun c => D.int ((c : Nat) : Int)
theorem loc_encN (sc : Bool) (k : Nat) (l : List Nat) : locBs sc k (encN l) = true := loc_map l fun a _ => rfl
abbrev freeB : SM := (sAsg (e2 gMod (e2 Kw.gSub (eC d_CELL) (e2 gIx (eVar 6) (eVar 0))) (eC d_CELL)) (gSubM (eVar 4) (eVar 5)))
theorem free_row_ok {rows : List (List Int)} {w : Nat} {left steps : List P} {piv : List Nat} {free : Nat} (h : RR rows w) (G : GI rows w w left steps piv) (hf : free ∉ piv) (hw : free < w) (μ : Mem) :
    ∃ r, callP f_free_row [.int (free : Int), .lst (encN piv), .lst (steps.map enc), .int (w : Int)] μ = .ok (tI r) μ ∧ Fr w steps piv free piv.length r := by
  have w2 := h.w2
  have u := unit_c (n := w) (i := free) (by omega) []
  have lp := loopS_at (g := (gSeq 2 (gsCons (gNm 5) (gsCons (gSeq 2 (gsCons (gNm 6) (gsCons (gNm 7) gsNil))) gsNil)))) (b := freeB) (I := fun k δ μ => ∃ r o5 o6 o7, Fr w steps piv free k r ∧ δ = [some (.int (free : Int)), some (.lst (encN piv)), some (.lst (steps.map enc)), some (.int (w : Int)), some (.loc 0), o5, o6, o7] ∧ μ = [.lst (r.map D.int)]) (zipD (encN piv) (steps.map enc)) 0 (δ := [some (.int (free : Int)), some (.lst (encN piv)), some (.lst (steps.map enc)), some (.int (w : Int)), some (.loc 0), none, none, none]) (μ := [.lst ((unitL w free).map D.int)]) (fun k d δ μ hk hI => by
    obtain ⟨r, o5, o6, o7, F, rfl, rfl⟩ := hI
    rw [Nat.zero_add] at F ⊢
    obtain ⟨c, p, hc, hp, rfl⟩ := zip_get hk
    have cw := (G.pv k c hc).1
    have sp := (G.sh p (.inr (List.mem_of_getElem? hp))).1
    have ix := ix_row (r := p.1) (c := free) (by rw [sp.1]; exact hw) [.lst (r.map D.int)]
    have st := set_at (l := 0) (μ := [.lst (r.map D.int)]) (k := c) (y := .int ((257 - at0 p.1 free) % 257)) rfl (by simp [F.cl.1]; exact cw)
    refine ⟨[some (.int (free : Int)), some (.lst (encN piv)), some (.lst (steps.map enc)), some (.int (w : Int)), some (.loc 0), some (.int (c : Int)), some (tI p.1), some (tI p.2)], [some (.int (free : Int)), some (.lst (encN piv)), some (.lst (steps.map enc)), some (.int (w : Int)), some (.loc 0), some (.int (c : Int)), some (tI p.1), some (tI p.2)], [.lst (r.map D.int)], [.lst ((r.set c ((257 - at0 p.1 free) % 257)).map D.int)], rfl, .inl ?_, _, _, _, _, F.next G hc hp, rfl, rfl⟩
    rw [← List.map_set] at st
    have hm : gMod (.int (257 - at0 p.1 free)) (.int 257) [.lst (r.map D.int)] = some (.int ((257 - at0 p.1 free) % 257)) := gMod_int (by decide)
    generalize encN piv = e1
    generalize steps.map enc = e2
    generalize (257 - at0 p.1 free) % 257 = v at st hm ⊢
    simp only [List.set_cons_zero] at st
    generalize (r.set c v).map D.int = rs2 at st ⊢
    generalize r.map D.int = rs at ix st hm ⊢
    simp [eVar_run, d_CELL, ix, hm, st]) ⟨unitL w free, none, none, none, Fr.init hf hw, rfl, rfl⟩
  obtain ⟨δ', μ', e, r, o5, o6, o7, F, rfl, rfl⟩ := lp
  have len : 0 + (zipD (encN piv) (steps.map enc)).length = piv.length := by rw [zipD_length]; simp [G.pl]
  rw [len] at F
  refine ⟨r, callP_ok (μ' := [.lst (r.map D.int)]) ?_ (by simp [locBs, locB, loc_encN, loc_lencs]) (loc_tI _ _ _), F⟩
  have gt : gTuple [.loc 0] [.lst (r.map D.int)] = some (tI r) := rfl
  have nl : gNewList [tI (unitL w free)] [] = some (.loc 0, [.lst ((unitL w free).map D.int)]) := rfl
  refine body_ret (δ := [some (.int (free : Int)), some (.lst (encN piv)), some (.lst (steps.map enc)), some (.int (w : Int)), none, none, none, none]) rfl ?_
  unfold m_free_row
  generalize f_unit = fu at u ⊢
  generalize encN piv = e1 at *
  generalize steps.map enc = e2 at *
  rw [seq_nx (δ1 := [some (.int (free : Int)), some (.lst e1), some (.lst e2), some (.int (w : Int)), some (.loc 0), none, none, none]) (μ1 := [.lst ((unitL w free).map D.int)]) (by simp [eVar_run, u, nl])]
  rw [seq_nx (δ1 := [some (.int (free : Int)), some (.lst e1), some (.lst e2), some (.int (w : Int)), some (.loc 0), o5, o6, o7]) (μ1 := [.lst (r.map D.int)]) (by simp [eVar_run]; exact e)]
  simp [eVar_run, gt]
/-! ### the solution -/
def fst1 : List Int → Nat
  | [] => 0
  | a :: r => if a = 0 then fst1 r + 1 else 0
theorem fst1_at : ∀ (r : List Int) (c : Nat), (∀ c', c' < c → at0 r c' = 0) → at0 r c ≠ 0 → fst1 r = c
  | [], c, _, h => absurd (by simp [at0]) h
  | a :: r, 0, _, h => if_neg (by simpa [at0] using h)
  | a :: r, c + 1, h0, h => by
    have za : a = 0 := by simpa [at0] using h0 0 (by omega)
    have ih := fst1_at r c (fun c' hc' => by simpa [at0] using h0 (c' + 1) (by omega)) (by simpa [at0] using h)
    rw [fst1, if_pos za, ih]
theorem GI.first {rows : List (List Int)} {w : Nat} {left steps : List P} {piv : List Nat} (G : GI rows w w left steps piv) {j : Nat} {p : P} (hp : steps[j]? = some p) : ∃ c, piv[j]? = some c ∧ c < w ∧ (∀ c', c' < c → at0 p.1 c' = 0) ∧ at0 p.1 c ≠ 0 ∧ fst1 p.1 = c := by
  have hj : j < piv.length := by rw [G.pl]; exact (List.getElem?_eq_some_iff.mp hp).1
  obtain ⟨a, b, d⟩ := G.pv j piv[j] (List.getElem?_eq_getElem hj)
  have h1 := d j p hp
  rw [if_pos rfl] at h1
  exact ⟨_, List.getElem?_eq_getElem hj, a, b p hp, by omega, fst1_at _ _ (b p hp) (by omega)⟩
theorem GI.firsts {rows : List (List Int)} {w : Nat} {left steps : List P} {piv : List Nat} (G : GI rows w w left steps piv) : steps.map (fun p => fst1 p.1) = piv := by
  refine List.ext_getElem? fun j => ?_
  rw [List.getElem?_map]
  cases hp : steps[j]? with
  | none =>
    have : steps.length ≤ j := List.getElem?_eq_none_iff.mp hp
    rw [List.getElem?_eq_none (by rw [G.pl]; exact this)]
    rfl
  | some p =>
    obtain ⟨c, hc, _, _, _, e⟩ := G.first hp
    rw [hc, Option.map_some, e]
abbrev oneB : SM := (sAsg (eCallP f_product (aCons (eVar 11) (aCons (eVar 3) aNil))) (gSubM (eVar 8) (eVar 9)))
abbrev sl13 (rows : List (List Int)) (g : List Int) (steps left : List P) (w : Nat) (o7 o8 o9 o10 o11 o12 : Option D) : Sv := [some (.lst (encR rows)), some (tI g), some (.tup (encR rows)), some (tI g), some (.lst (steps.map enc)), some (.lst (left.map enc)), some (.int (w : Int)), o7, o8, o9, o10, o11, o12]
/-- what solve tells -/
inductive Told (rows : List (List Int)) (w : Nat) (g : List Int) : D → Prop
  | no {left steps : List P} {piv : List Nat} (G : GI rows w w left steps piv) (p : P) (hp : p ∈ left) (hz : prod p.2 g ≠ 0) : Told rows w g .non
  | yes {left steps : List P} {piv : List Nat} (G : GI rows w w left steps piv) (x : List Int) (frs : List (List Int)) (o : Ok1 w steps piv g steps.length x) (hz : ∀ p ∈ left, prod p.2 g = 0) (oz : ∀ c, c ∉ piv → at0 x c = 0)
    (hl : frs.length = ((List.range w).filter fun c => !(piv.contains c)).length) (hf : ∀ (k c : Nat) (r : List Int), ((List.range w).filter fun c => !(piv.contains c))[k]? = some c → frs[k]? = some r → Fr w steps piv c piv.length r) : Told rows w g (.tup [tI x, .tup (encR frs)])
theorem frees_ok {rows : List (List Int)} {w : Nat} {left steps : List P} {piv : List Nat} (h : RR rows w) (G : GI rows w w left steps piv) (μ : Mem) : ∀ (fs : List Nat), (∀ f ∈ fs, f ∉ piv ∧ f < w) → ∀ (δ : Sv), δ[7]? = some (some (.lst (encN piv))) → δ[4]? = some (some (.lst (steps.map enc))) → δ[6]? = some (some (.int (w : Int))) → 9 < δ.length →
    ∃ frs, lcL (gNm 9) tYesM (eCallP f_free_row (aCons (eVar 9) (aCons (eVar 7) (aCons (eVar 4) (aCons (eVar 6) aNil))))) δ (encN fs) μ = .ok (encR frs) μ ∧ frs.length = fs.length ∧ ∀ (k c : Nat) (r : List Int), fs[k]? = some c → frs[k]? = some r → Fr w steps piv c piv.length r
  | [], _, δ, _, _, _, _ => ⟨[], rfl, rfl, fun k c r h => by simp at h⟩
  | f :: fs, hfs, δ, h7, h4, h6, hn => by
    obtain ⟨frs, e, el, hf⟩ := frees_ok h G μ fs (fun a ha => hfs a (List.mem_cons_of_mem _ ha)) δ h7 h4 h6 hn
    obtain ⟨a, b⟩ := hfs f List.mem_cons_self
    obtain ⟨r, er, F⟩ := free_row_ok h G a b μ
    refine ⟨r :: frs, ?_, by simp [el], fun k c r' hk hr => ?_⟩
    · have v9 : eVar 9 (δ.set 9 (some (.int (f : Int)))) μ = .ok (.int (f : Int)) μ := by rw [eVar_run, List.getElem?_set_self hn]; rfl
      have v7 : eVar 7 (δ.set 9 (some (.int (f : Int)))) μ = .ok (.lst (encN piv)) μ := by rw [eVar_run, List.getElem?_set_ne (by decide), h7]; rfl
      have v4 : eVar 4 (δ.set 9 (some (.int (f : Int)))) μ = .ok (.lst (steps.map enc)) μ := by rw [eVar_run, List.getElem?_set_ne (by decide), h4]; rfl
      have v6 : eVar 6 (δ.set 9 (some (.int (f : Int)))) μ = .ok (.int (w : Int)) μ := by rw [eVar_run, List.getElem?_set_ne (by decide), h6]; rfl
      have me : eCallP f_free_row (aCons (eVar 9) (aCons (eVar 7) (aCons (eVar 4) (aCons (eVar 6) aNil)))) (δ.set 9 (some (.int (f : Int)))) μ = .ok (tI r) μ := by
        simp only [eCallP_run, aCons_run, aNil_run, v9, v7, v4, v6, bind_ok, er]
      simp only [encN, List.map_cons, lcL, gNm_run, tYes_run, me]
      rw [show fs.map (fun c => D.int ((c : Nat) : Int)) = encN fs from rfl, e]
    · cases k with
      | zero =>
        simp at hk hr
        subst hk hr
        exact F
      | succ k => exact hf k c r' (by simpa using hk) (by simpa using hr)
theorem solve_ok {rows : List (List Int)} {w : Nat} {g : List Int} (h : RR rows w) (hg : Cl rows.length g) (μ : Mem) : ∃ d, callP f_solve [.lst (encR rows), tI g] μ = .ok d μ ∧ Told rows w g d := by
  have n2 := h.n2
  have w2 := h.w2
  obtain ⟨left, steps, piv, G, st⟩ := steps_ok h
  have st := st []
  have cr := check_rows_c h (.inl rfl) []
  have ck := check_row_c (.t g) hg (by omega) []
  have ll : left.length ≤ 40 := by have := G.cnt; omega
  have sl : steps.length ≤ 40 := by have := G.cnt; omega
  -- any of the rest
  have c5 : lcL (gSeq 2 (gsCons (gNm 10) (gsCons (gNm 11) gsNil))) tYesM (e2 gNe (eCallP f_product (aCons (eVar 11) (aCons (eVar 3) aNil))) (eC (.int 0))) [some (.lst (encR rows)), some (tI g), some (.tup (encR rows)), some (tI g), some (.lst (steps.map enc)), some (.lst (left.map enc)), none, none, none, none, none, none, none] (left.map enc) [] = .ok (left.map fun p => D.bl (!(prod p.2 g == 0))) [] :=
    lcL_pair (e1 := fun p : P => tI p.1) (e2 := fun p : P => tI p.2) (f := fun p => D.bl (!(prod p.2 g == 0))) left fun p hp => by
      have pr := prod_c (.t p.2) (.t g) (G.sh p (.inl hp)).2.2 (by have := (G.sh p (.inl hp)).2.1; omega) []
      generalize encR rows = rs
      generalize left.map enc = ls
      generalize steps.map enc = ss
      simp [eVar_run, pr]
  have z5 : (left.map fun p => D.bl (!(prod p.2 g == 0))).length ≤ sizeLine := szN (by simp; omega)
  have a5 := any_map' left (fun p : P => !(prod p.2 g == 0)) []
  have gl : ((encR rows).length : Int) = (rows.length : Int) := by simp
  have loc0 : locBs false 0 [.lst (encR rows), tI g] = true := by simp [locBs, locB, loc_encR, loc_ints]
  cases hb : left.any fun p => !(prod p.2 g == 0) with
  | true =>
    obtain ⟨p, hp, hz⟩ := List.any_eq_true.mp hb
    refine ⟨.non, callP_ok (μ' := []) ?_ loc0 rfl, .no G p hp (by simpa using hz)⟩
    rw [hb] at a5
    unfold f_solve bodyM m_solve
    generalize (left.map fun p => D.bl (!(prod p.2 g == 0))) = bs at *
    generalize encR rows = rs at *
    generalize left.map enc = ls at *
    generalize steps.map enc = ss at *
    simp [eVar_run, cr, gl, ck, st, wipeD, c5, z5, a5]
  | false =>
    have hz : ∀ p ∈ left, prod p.2 g = 0 := fun p hp => by
      have := List.any_eq_false.mp hb p hp
      simpa using this
    rw [hb] at a5
    obtain ⟨r0, i0, l0⟩ := ix_rows0 h []
    -- firsts
    have c7 : lcL (gSeq 2 (gsCons (gNm 10) (gsCons (gNm 11) gsNil))) tYesM (eCallP f_first_column (aCons (eVar 10) aNil)) (sl13 rows g steps left w none none none none none none) (steps.map enc) [] = .ok (encN piv) [] := by
      have := lcL_pair (e1 := fun p : P => tI p.1) (e2 := fun p : P => tI p.2) (me := eCallP f_first_column (aCons (eVar 10) aNil)) (δ := sl13 rows g steps left w none none none none none none) (μ := []) (f := fun p => D.int ((fst1 p.1 : Nat) : Int)) (i := 10) (j := 11) steps fun p hp => by
        obtain ⟨j, hj⟩ := List.mem_iff_getElem?.mp hp
        obtain ⟨c, hc, cw, hb, hn, e⟩ := G.first hj
        have fc := first_c hb hn []
        rw [e]
        generalize encR rows = rs
        generalize left.map enc = ls
        generalize steps.map enc = ss
        simp [eVar_run, fc]
      rw [this, ← G.firsts, encN, List.map_map]
      rfl
    have z7 : (encN piv).length ≤ sizeLine := szN (by have := G.pl; simp; omega)
    have rp : repL (.lst [.int 0]) (.int (w : Int)) = some ((List.replicate w (0 : Int)).map D.int) := by
      unfold repL
      simp only
      rw [zero_row, if_pos]
      refine ⟨by omega, by omega, szN (by simp; omega)⟩
    have lp := loopS_at (g := (gSeq 2 (gsCons (gNm 9) (gsCons (gSeq 2 (gsCons (gNm 10) (gsCons (gNm 11) gsNil))) gsNil)))) (b := oneB) (I := fun k δ μ => ∃ x o9 o10 o11, Ok1 w steps piv g k x ∧ (∀ c, c ∉ piv → at0 x c = 0) ∧ δ = sl13 rows g steps left w (some (.lst (encN piv))) (some (.loc 0)) o9 o10 o11 none ∧ μ = [.lst (x.map D.int)]) (zipD (encN piv) (steps.map enc)) 0 (δ := sl13 rows g steps left w (some (.lst (encN piv))) (some (.loc 0)) none none none none) (μ := [.lst ((List.replicate w (0 : Int)).map D.int)]) (fun k d δ μ hk hI => by
      obtain ⟨x, o9, o10, o11, O, oz, rfl, rfl⟩ := hI
      rw [Nat.zero_add] at O ⊢
      obtain ⟨c, p, hc, hp, rfl⟩ := zip_get hk
      have cw := (G.pv k c hc).1
      have sp := (G.sh p (.inr (List.mem_of_getElem? hp))).2
      have pr := prod_c (.t p.2) (.t g) sp.2 (by have := sp.1; omega) [.lst (x.map D.int)]
      have sa := set_at (l := 0) (μ := [.lst (x.map D.int)]) (k := c) (y := .int (prod p.2 g)) rfl (by simp [O.cl.1]; exact cw)
      refine ⟨sl13 rows g steps left w (some (.lst (encN piv))) (some (.loc 0)) (some (.int (c : Int))) (some (tI p.1)) (some (tI p.2)) none, sl13 rows g steps left w (some (.lst (encN piv))) (some (.loc 0)) (some (.int (c : Int))) (some (tI p.1)) (some (tI p.2)) none, [.lst (x.map D.int)], [.lst ((x.set c (prod p.2 g)).map D.int)], rfl, .inl ?_, _, _, _, _, Ok1.next G (Nat.le_refl _) O hc hp, fun d hd => ?_, rfl, rfl⟩
      · rw [← List.map_set] at sa
        simp only [sl13]
        generalize encN piv = e1
        generalize encR rows = rs
        generalize left.map enc = ls
        generalize steps.map enc = ss
        generalize x.map D.int = xs at pr sa
        simp [eVar_run, pr, sa]
      · have ne : c ≠ d := fun z => hd (z ▸ List.mem_of_getElem? hc)
        rw [at0_set ne]
        exact oz d hd) ⟨List.replicate w 0, none, none, none, Ok1.init, fun c _ => at0_rep _ _, rfl, rfl⟩
    obtain ⟨δ', μ', e, x, o9, o10, o11, O, oz, rfl, rfl⟩ := lp
    have len : 0 + (zipD (encN piv) (steps.map enc)).length = steps.length := by rw [zipD_length]; simp [G.pl]
    rw [len] at O
    -- frees
    have rr := range1_run (mr := aCons (eVar 6) aNil) (δ := sl13 rows g steps left w (some (.lst (encN piv))) (some (.loc 0)) o9 o10 o11 none) (μ := [.lst (x.map D.int)]) (μ1 := [.lst (x.map D.int)]) (n := w) rfl (by omega)
    have c12 : lcL (gNm 9) (tBl (e2 gNin (eVar 9) (eVar 7))) (eVar 9) (sl13 rows g steps left w (some (.lst (encN piv))) (some (.loc 0)) none o10 o11 none) ((List.range w).map fun (k : Nat) => .int (k : Int)) [.lst (x.map D.int)] = .ok (encN ((List.range w).filter fun c => !(piv.contains c))) [.lst (x.map D.int)] :=
      lcL_filt (e := fun (k : Nat) => D.int (k : Int)) (f := fun k => D.int ((k : Nat) : Int)) (t := fun c => !(piv.contains c)) (List.range w) fun c _ => by
        have ni := nin_ints (c : Int) (piv.map fun k => ((k : Nat) : Int)) [.lst (x.map D.int)]
        rw [List.map_map] at ni
        have ni' : gNin (.int (c : Int)) (.lst (encN piv)) [.lst (x.map D.int)] = some (.bl !(piv.map fun k => ((k : Nat) : Int)).contains (c : Int)) := ni
        have e : (piv.map fun k => ((k : Nat) : Int)).contains (c : Int) = piv.contains c := by
          rw [Bool.eq_iff_iff]
          simp only [List.contains_iff_mem, List.mem_map]
          exact ⟨fun ⟨a, h1, h2⟩ => by rwa [show a = c by omega] at h1, fun h => ⟨c, h, rfl⟩⟩
        rw [e] at ni'
        refine ⟨?_, fun _ => rfl⟩
        simp only [sl13]
        generalize encN piv = e1 at ni' ⊢
        generalize encR rows = rs
        generalize left.map enc = ls
        generalize steps.map enc = ss
        simp [eVar_run, ni']
    have fsm : ∀ f ∈ (List.range w).filter fun c => !(piv.contains c), f ∉ piv ∧ f < w := fun f hf => by
      obtain ⟨a, b⟩ := List.mem_filter.mp hf
      exact ⟨by simpa using b, List.mem_range.mp a⟩
    have lf : ((List.range w).filter fun c => !(piv.contains c)).length ≤ 40 := Nat.le_trans (List.length_filter_le _ _) (by simp; omega)
    obtain ⟨frs, ef, el, hf⟩ := frees_ok h G [.lst (x.map D.int)] ((List.range w).filter fun c => !(piv.contains c)) fsm (sl13 rows g steps left w (some (.lst (encN piv))) (some (.loc 0)) none o10 o11 (some (.lst (encN ((List.range w).filter fun c => !(piv.contains c)))))) rfl rfl rfl (by simp)
    refine ⟨.tup [tI x, .tup (encR frs)], callP_ok (μ' := [.lst (x.map D.int)]) ?_ loc0 (by simp [locB, locBs, loc_ints, loc_encR]), .yes G x frs O hz oz el hf⟩
    have z12 : (encN ((List.range w).filter fun c => !(piv.contains c))).length ≤ sizeLine := szN (by simp only [encN, List.length_map]; omega)
    have zf : (encR frs).length ≤ sizeLine := szN (by simp only [encR, List.length_map]; omega)
    have gx : gTuple [.loc 0] [.lst (x.map D.int)] = some (tI x) := rfl
    refine body_ret (δ := [some (.lst (encR rows)), some (tI g), none, none, none, none, none, none, none, none, none, none, none]) rfl ?_
    unfold m_solve
    simp only [sl13] at *
    simp only [tI] at *
    generalize encN ((List.range w).filter fun c => !(piv.contains c)) = e12 at *
    generalize encR frs = ef at *
    generalize (left.map fun p => D.bl (!(prod p.2 g == 0))) = bs at *
    generalize encN piv = e1 at *
    generalize encR rows = rs at *
    generalize left.map enc = ls at *
    generalize steps.map enc = ss at *
    generalize g.map D.int = gs at *
    generalize x.map D.int = xs at *
    generalize (List.replicate w (0 : Int)).map D.int = zs at *
    rw [seq_nx (δ1 := [some (.lst rs), some (.tup gs), some (.tup rs), none, none, none, none, none, none, none, none, none, none]) (μ1 := []) (by simp [eVar_run, cr])]
    rw [seq_nx (δ1 := [some (.lst rs), some (.tup gs), some (.tup rs), some (.tup gs), none, none, none, none, none, none, none, none, none]) (μ1 := []) (by simp [eVar_run, gl, ck])]
    rw [seq_nx (δ1 := [some (.lst rs), some (.tup gs), some (.tup rs), some (.tup gs), some (.lst ss), some (.lst ls), none, none, none, none, none, none, none]) (μ1 := []) (by simp [eVar_run, st])]
    rw [seq_nx (δ1 := [some (.lst rs), some (.tup gs), some (.tup rs), some (.tup gs), some (.lst ss), some (.lst ls), none, none, none, none, none, none, none]) (μ1 := []) (by simp [eVar_run, wipeD, c5, z5, a5])]
    rw [seq_nx (δ1 := [some (.lst rs), some (.tup gs), some (.tup rs), some (.tup gs), some (.lst ss), some (.lst ls), some (.int (w : Int)), none, none, none, none, none, none]) (μ1 := []) (by simp [eVar_run, i0, l0])]
    rw [seq_nx (δ1 := [some (.lst rs), some (.tup gs), some (.tup rs), some (.tup gs), some (.lst ss), some (.lst ls), some (.int (w : Int)), some (.lst e1), none, none, none, none, none]) (μ1 := []) (by simp [eVar_run, wipeD, c7, z7])]
    rw [seq_nx (δ1 := [some (.lst rs), some (.tup gs), some (.tup rs), some (.tup gs), some (.lst ss), some (.lst ls), some (.int (w : Int)), some (.lst e1), some (.loc 0), none, none, none, none]) (μ1 := [.lst zs]) (by simp [eVar_run, gLstD_run, rp])]
    rw [seq_nx (δ1 := [some (.lst rs), some (.tup gs), some (.tup rs), some (.tup gs), some (.lst ss), some (.lst ls), some (.int (w : Int)), some (.lst e1), some (.loc 0), o9, o10, o11, none]) (μ1 := [.lst xs]) (by simp [eVar_run]; exact e)]
    rw [seq_nx (δ1 := [some (.lst rs), some (.tup gs), some (.tup rs), some (.tup gs), some (.lst ss), some (.lst ls), some (.int (w : Int)), some (.lst e1), some (.loc 0), o9, o10, o11, some (.lst e12)]) (μ1 := [.lst xs]) (by simp [wipeD, rr, c12, z12])]
    simp [eVar_run, wipeD, gx, ef, zf, gTupD_run]
end K04

set_option Elab.async false
set_option linter.all false
set_option maxRecDepth 100000
namespace K04
open PySem PySem.Spec PyProof.Rows L2 Kw
theorem Kd.sq {v : D} {is : List Int} (h : Kd v (some (is.map D.int))) : Sq v is := by
  generalize e : some (is.map D.int) = o at h
  cases h with
  | tup h hl => cases e; exact .t is
  | lst h hl => cases e; exact .l is
  | no h => cases e
theorem bools_zip {α β : Type} (b : α → β → Bool) : ∀ (xs : List α) (ys : List β), boolsOf (List.zipWith (fun x y => D.bl (b x y)) xs ys) = some (List.zipWith b xs ys)
  | [], ys => rfl
  | x :: xs, [] => rfl
  | x :: xs, y :: ys => by
    have := bools_zip b xs ys
    simp [boolsOf, this]
theorem all_zip {α : Type} (f : α → Int) : ∀ (xs : List α) (ys : List Int), xs.length = ys.length → (List.zipWith (fun x y => f x == y) xs ys).all id = decide (xs.map f = ys)
  | [], [], _ => rfl
  | x :: xs, y :: ys, h => by
    have := all_zip f xs ys (by simpa using h)
    rw [List.zipWith_cons_cons, List.all_cons, this, List.map_cons]
    by_cases e : f x = y <;> by_cases e2 : xs.map f = ys <;> simp [e, e2]
  | [], y :: ys, h => by simp at h
  | x :: xs, [], h => by simp at h
theorem flat_ints : ∀ l : List Int, flatTs (l.map D.int) = some (l.map fun x => x != 0)
  | [] => rfl
  | a :: l => by
    have := flat_ints l
    simp [flatTs, flatT, this]
theorem anyF_ints (l : List Int) (μ : Mem) : gAnyF [tI l] μ = some (.bl (l.any fun x => x != 0)) := by
  unfold gAnyF
  simp only [seqOf, flat_ints, List.any_map]
  rfl
/-- the row solves -/
def solB (rows : List (List Int)) (g : List Int) (is : List Int) : Bool := decide (rows.map (fun r => prod r is) = g)
/-- the row gives reasons -/
def reaB (rows : List (List Int)) (w : Nat) (g : List Int) (is : List Int) : Bool := !((sumL rows is w).any fun x => x != 0) && !(prod is g == 0)
theorem solution_holds_ok {x g' v : D} {rows : List (List Int)} {w : Nat} {g : List Int} {o : Option (List D)} (h : RR rows w) (hx : x = .lst (encR rows) ∨ x = .tup (encR rows)) (hg' : Sq g' g) (hg : Cl rows.length g) (hv : Kd v o) :
    (rowB w o = false → f_solution_holds [x, g', v] [] = .ok (.bl false) []) ∧ ∀ is : List Int, o = some (is.map D.int) → Cl w is → f_solution_holds [x, g', v] [] = .ok (.bl (solB rows g is)) [] := by
  have n2 := h.n2
  have w2 := h.w2
  have v0 : ∀ μ, vOf (some (some x)) μ = .ok x μ := fun μ => by rcases hx with rfl | rfl <;> rfl
  have v1 : ∀ μ, vOf (some (some g')) μ = .ok g' μ := fun μ => hg'.vo
  have v2 : ∀ μ, vOf (some (some v)) μ = .ok v μ := fun μ => hv.vo
  have cr := check_rows_c h hx []
  have ck := check_row_c hg' hg (by omega) []
  have gl : ((encR rows).length : Int) = (rows.length : Int) := by simp
  obtain ⟨r0, i0, l0⟩ := ix_rows0 h []
  have ir := callP_ok (μ := []) (is_row_of_ok hv w) (by simp [locBs, hv.loc]; rfl) rfl
  constructor
  · intro hb
    rw [hb] at ir
    refine body_ret (δ := [some x, some g', some v, none, none, none, none]) rfl ?_
    unfold m_solution_holds
    generalize encR rows = rs at *
    simp [eVar_run, v0, v1, v2, cr, gl, ck, i0, l0, ir]
  · intro is ho his
    have hb : rowB w o = true := by
      rw [ho]
      simp only [rowB, List.length_map, his.1, decide_true, Bool.true_and]
      exact ints_cells is his.2
    rw [hb] at ir
    subst ho
    have sv := hv.sq
    have zl := lcL_zip2 (e1 := tI) (e2 := D.int) (me := (e2 gEq (eCallP f_product (aCons (eVar 5) (aCons (eVar 2) aNil))) (eVar 6))) (δ := [some x, some g', some v, some (.tup (encR rows)), some (tI g), none, none]) (μ := []) (f := fun r c => D.bl (prod r is == c)) (i := 5) (j := 6) rows g fun r hr c hc => by
      have pr := prod_c (.t r) sv (h.r r hr).2 (by rw [(h.r r hr).1]; omega) []
      generalize encR rows = rs
      simp [eVar_run, v2, pr]
    have ga : gAll [.lst (List.zipWith (fun r c => D.bl (prod r is == c)) rows g)] [] = some (.bl (solB rows g is)) := by
      simp only [gAll, lstOf_lst, bools_zip, all_zip _ rows g hg.1.symm]
      rfl
    have sz : (List.zipWith (fun r c => D.bl (prod r is == c)) rows g).length ≤ sizeLine := szN (by simp; omega)
    refine body_ret (δ := [some x, some g', some v, none, none, none, none]) rfl ?_
    unfold m_solution_holds
    rw [show rows.map tI = encR rows from rfl] at zl
    simp only [tI] at *
    generalize (List.zipWith (fun r c => D.bl (prod r is == c)) rows g) = zs at *
    generalize encR rows = rs at *
    generalize g.map D.int = gs at *
    simp [eVar_run, v0, v1, v2, cr, gl, ck, i0, l0, ir, wipeD, zl, sz, ga]
theorem reasons_hold_ok {x g' v : D} {rows : List (List Int)} {w : Nat} {g : List Int} {o : Option (List D)} (h : RR rows w) (hx : x = .lst (encR rows) ∨ x = .tup (encR rows)) (hg' : Sq g' g) (hg : Cl rows.length g) (hv : Kd v o) :
    (rowB rows.length o = false → f_reasons_hold [x, g', v] [] = .ok (.bl false) []) ∧ ∀ is : List Int, o = some (is.map D.int) → Cl rows.length is → f_reasons_hold [x, g', v] [] = .ok (.bl (reaB rows w g is)) [] := by
  have n2 := h.n2
  have w2 := h.w2
  have v0 : ∀ μ, vOf (some (some x)) μ = .ok x μ := fun μ => by rcases hx with rfl | rfl <;> rfl
  have v1 : ∀ μ, vOf (some (some g')) μ = .ok g' μ := fun μ => hg'.vo
  have v2 : ∀ μ, vOf (some (some v)) μ = .ok v μ := fun μ => hv.vo
  have cr := check_rows_c h hx []
  have ck := check_row_c hg' hg (by omega) []
  have gl : ((encR rows).length : Int) = (rows.length : Int) := by simp
  have ir := callP_ok (μ := []) (is_row_of_ok hv rows.length) (by simp [locBs, hv.loc]; rfl) rfl
  constructor
  · intro hb
    rw [hb] at ir
    refine body_ret (δ := [some x, some g', some v, none, none]) rfl ?_
    unfold m_reasons_hold
    generalize encR rows = rs at *
    simp [eVar_run, v0, v1, v2, cr, gl, ck, ir]
  · intro is ho his
    have hb : rowB rows.length o = true := by
      rw [ho]
      simp only [rowB, List.length_map, his.1, decide_true, Bool.true_and]
      exact ints_cells is his.2
    rw [hb] at ir
    subst ho
    have sv := hv.sq
    have sr := callP_ok (μ := []) (sum_rows_ok h sv his.1) (by simp [locBs, locB, loc_encR, hv.loc]) (loc_tI _ _ _)
    have pr := prod_c sv (.t g) his.2 (by rw [his.1]; omega) []
    have an := anyF_ints (sumL rows is w) []
    refine body_ret (δ := [some x, some g', some v, none, none]) rfl ?_
    unfold m_reasons_hold
    unfold reaB
    generalize ((sumL rows is w).any fun x => x != 0) = bb at *
    simp only [tI] at *
    generalize encR rows = rs at *
    generalize g.map D.int = gs at *
    generalize (sumL rows is w).map D.int = zs at *
    cases bb <;> simp [eVar_run, v0, v1, v2, cr, gl, ck, ir, sr, an, pr]
theorem sum_zero {rows : List (List Int)} {y : List Int} {w : Nat} (h : ((sumL rows y w).any fun x => x != 0) = false) : ∀ c, c < w → prod (colOf rows c) y = 0 := fun c hc => by
  have := List.any_eq_false.mp h (prod (colOf rows c) y) (List.mem_map.mpr ⟨c, List.mem_range.mpr hc, rfl⟩)
  simpa using this
/-- a solution bars reasons -/
theorem told_bars {rows : List (List Int)} {w : Nat} {g is : List Int} {d : D} (h : RR rows w) (hg : Cl rows.length g) (t : Told rows w g d) (hd : d ≠ .non) : reaB rows w g is = false := by
  cases t with
  | no G p hp hz => exact absurd rfl hd
  | yes G x frs O hz oz hl hf =>
    have sol := O.sol G hg.1 hz
    cases hb : reaB rows w g is with
    | false => rfl
    | true =>
      unfold reaB at hb
      rw [Bool.and_eq_true] at hb
      have z := no_reasons (x := x) (y := is) (g := g) (fun r hr => by rw [(h.r r hr).1, O.cl.1]) hg.1 sol fun c hc => sum_zero (w := w) (by simpa using hb.1) c (by rw [← O.cl.1]; exact hc)
      rw [z] at hb
      simp at hb
end K04

set_option Elab.async false
set_option linter.all false
set_option maxRecDepth 100000
namespace K04
open PySem PySem.Spec PyProof.Rows L2 Kw
/-! ### the law's rows -/
theorem Bx.app {μ : Mem} {l : Nat} {b : Ob} (h : Bx μ l) : Bx (μ ++ [b]) l := by
  obtain ⟨x, y, z, e⟩ := h
  exact ⟨x, y, z, by rw [List.getElem?_append_left (List.getElem?_eq_some_iff.mp e).1]; exact e⟩
theorem Bx.set {μ : Mem} {l i : Nat} {b : Ob} (h : Bx μ l) (hi : i ≠ l) : Bx (μ.set i b) l := by
  obtain ⟨x, y, z, e⟩ := h
  exact ⟨x, y, z, by rw [List.getElem?_set_ne hi]; exact e⟩
theorem Bx.lt {μ : Mem} {l : Nat} (h : Bx μ l) : l < μ.length := by
  obtain ⟨x, y, z, e⟩ := h
  exact (List.getElem?_eq_some_iff.mp e).1
theorem pyWs_encR (f : Nat → Option PyData) : ∀ rows : List (List Int), pyWs f (encR rows) = some (rows.map fun r => PyData.tuple (r.map PyData.int))
  | [] => rfl
  | r :: rows => by
    have h1 := pyWs_encR f rows
    have h2 := pyWs_ints f r
    simp only [encR, List.map_cons, tI, pyWs, pyW, h2] at h1 ⊢
    rw [h1]
theorem canLay_rows : ∀ rows : List (List Int), PyData.canLayAll0 (rows.map fun r => PyData.tuple (r.map PyData.int)) = true
  | [] => rfl
  | r :: rows => by
    have h1 := canLay_rows rows
    have h2 := canLay_ints r
    simp only [List.map_cons, PyData.canLayAll0, PyData.canLay0, h1, h2, Bool.and_self]
theorem depth_rows : ∀ rows : List (List Int), PyData.depthAll (rows.map fun r => PyData.tuple (r.map PyData.int)) ≤ 2
  | [] => by decide
  | r :: rows => by
    have h1 := depth_rows rows
    have h2 := depth_ints r
    simp only [List.map_cons, PyData.depthAll, PyData.depth]
    omega
theorem shaped_rows (rows : List (List Int)) : SeqAt.shaped (.list (rows.map fun r => PyData.tuple (r.map PyData.int))) = true := by
  have h1 := canLay_rows rows
  have h2 := depth_rows rows
  unfold SeqAt.shaped
  rw [Bool.and_eq_true]
  refine ⟨by simpa only [PyData.canLay0] using h1, ?_⟩
  rw [decide_eq_true_eq]
  simp only [PyData.depth]
  omega
theorem ne_rows {μ : Mem} {f : Nat} {rows : List (List Int)} (h : μ[f]? = some (.lst (encR rows))) : gNe (.loc f) (.lst []) μ = some (.bl (!rows.isEmpty)) := by
  have e1 : pyOf μ (.loc f) = some (.list (rows.map fun r => PyData.tuple (r.map PyData.int))) := by
    unfold pyOf
    simp only [pyW, pyL, h, pyWs_encR]
  have e2 : pyOf μ (.lst []) = some (.list []) := rfl
  unfold gNe eqD
  rw [e1, e2]
  simp only
  rw [if_pos (by rw [shaped_rows]; rfl)]
  cases rows <;> rfl
abbrev pickE : EM := (eIfM (tBl (e2 gLt (eVar 3) (eC (.int 3)))) (eCallM f__law_pick (aCons (eVar 0) (aCons (eAs gLstD (aCons (eC (.int 0)) (aCons (eC (.int 1)) (aCons (eC (.int 256)) (aCons (eCallM f__law_take (aCons (eVar 0) (aCons (eC (.int 257)) aNil))) aNil))))) aNil))) (eCallM f__law_take (aCons (eVar 0) (aCons (eC (.int 3)) aNil))))
abbrev moreB : SM := (sIf (tAndM (tBl (e2 gEq (eVar 3) (eC (.int 1)))) (tBl (e2 gNe (eVar 4) (eAs gLstD aNil)))) (sSeq (sPar 7 8 (aCons (eCallM f__law_pick (aCons (eVar 0) (aCons (eVar 4) aNil))) (aCons (eCallM f__law_pick (aCons (eVar 0) (aCons (eVar 4) aNil))) aNil))) (sSeq (sAsg (eCallM f__law_take (aCons (eVar 0) (aCons (eC (.int 257)) aNil))) (gNm 9)) (sAsg (eAs gTuple (aCons (eLc (iZip2 (aCons (eVar 7) (aCons (eVar 8) aNil))) (gSeq 2 (gsCons (gNm 11) (gsCons (gNm 12) gsNil))) tYesM (e2 gMod (eAs gInt (aCons (e2 gAdd (eVar 11) (e2 gMul (eVar 9) (eVar 12))) aNil)) (eC (.int 257))) [11, 12]) aNil)) (gNm 6)))) sNext)
abbrev rowB' : SM := (sSeq (sAsg (eAs gTuple (aCons (eLc (iRange1 (aCons (eVar 2) aNil)) (gNm 10) tYesM pickE [10]) aNil)) (gNm 6)) (sSeq moreB (sDrop (eMtL gAppend (eVar 4) (aCons (eVar 6) aNil)))))
abbrev slR (l w : Nat) (most style : Int) (f : Nat) (o5 o6 o7 o8 o9 o10 o11 o12 : Option D) : Sv := [some (.loc l), some (.int most), some (.int (w : Int)), some (.int style), some (.loc f), o5, o6, o7, o8, o9, o10, o11, o12]
structure RI (l f w : Nat) (μ0 : Mem) (rows : List (List Int)) (μ : Mem) : Prop where
  bx : Bx μ l
  fd : μ[f]? = some (.lst (encR rows))
  kp : Kp l μ0 μ
  rw : ∀ r ∈ rows, Cl w r
theorem RI.stay {l f w : Nat} {μ0 μ μ' : Mem} {rows : List (List Int)} (I : RI l f w μ0 rows μ) (hf : f ≠ l) (hb : Bx μ' l) (st : Stay l μ μ') : RI l f w μ0 rows μ' := ⟨hb, (st.2 f hf).trans I.fd, I.kp.trans (.of st), I.rw⟩
theorem row_ok {l w f : Nat} {most style : Int} {μ0 μ : Mem} {rows : List (List Int)} (hf : f ≠ l) (hw : w ≤ 40) (I : RI l f w μ0 rows μ) (o5 o6 o7 o8 o9 o10 o11 o12 : Option D) :
    ∃ (r : List Int) (μ' : Mem), Cl w r ∧ RI l f w μ0 rows μ' ∧ (sAsg (eAs gTuple (aCons (eLc (iRange1 (aCons (eVar 2) aNil)) (gNm 10) tYesM pickE [10]) aNil)) (gNm 6)) (slR l w most style f o5 o6 o7 o8 o9 o10 o11 o12) μ = .nx (slR l w most style f o5 (some (tI r)) o7 o8 o9 o10 o11 o12) μ' := by
  have rr := range1_run (mr := aCons (eVar 2) aNil) (δ := slR l w most style f o5 o6 o7 o8 o9 o10 o11 o12) (μ := μ) (μ1 := μ) (n := w) rfl (by omega)
  obtain ⟨ys, μ', e, I', hl, hp⟩ := lcL_eff (e := fun (k : Nat) => D.int (k : Int)) (me := pickE) (δ := slR l w most style f o5 o6 o7 o8 o9 none o11 o12) (i := 10) (I := RI l f w μ0 rows) (P := fun y => ∃ c, y = .int c ∧ 0 ≤ c ∧ c < 257) (List.range w) μ (fun k _ μ I => by
    show ∃ y μ', pickE (slR l w most style f o5 o6 o7 o8 o9 (some (.int (k : Int))) o11 o12) μ = _ ∧ _
    by_cases hs : style < 3
    · obtain ⟨c, μ1, ht, c0, c1, hb, st⟩ := takeM (m := 257) I.bx (by omega) (by omega)
      have I1 := I.stay hf hb st
      obtain ⟨y, μ2, hp, hy, hb2, st2⟩ := pickM (xs := [.int 0, .int 1, .int 256, .int c]) I1.bx (by simp) (by simp)
      refine ⟨y, μ2, ?_, I1.stay hf hb2 st2, ?_⟩
      · simp [eVar_run, hs, ht, gLstD_run, hp]
      · simp only [List.mem_cons, List.mem_nil_iff, or_false] at hy
        rcases hy with h | h | h | h
        · exact ⟨0, h, by omega, by omega⟩
        · exact ⟨1, h, by omega, by omega⟩
        · exact ⟨256, h, by omega, by omega⟩
        · exact ⟨c, h, c0, c1⟩
    · obtain ⟨c, μ1, ht, c0, c1, hb, st⟩ := takeM (m := 3) I.bx (by omega) (by omega)
      exact ⟨.int c, μ1, by simp [eVar_run, hs, ht], I.stay hf hb st, c, rfl, c0, by omega⟩) I
  obtain ⟨r, rfl, hr⟩ := ints_of ys hp
  refine ⟨r, μ', ⟨by simpa using hl, hr⟩, I', ?_⟩
  have sz : (r.map D.int).length ≤ sizeLine := szN (by rw [hl]; simp; omega)
  simp only [tI]
  generalize r.map D.int = rs at *
  simp [rr, wipeD, e, sz]
theorem mem_encR {rows : List (List Int)} {y : D} (h : y ∈ encR rows) : ∃ r ∈ rows, y = tI r := by
  obtain ⟨r, hr, rfl⟩ := List.mem_map.mp h
  exact ⟨r, hr, rfl⟩
theorem more_ok {l w f : Nat} {most style : Int} {μ0 μ : Mem} {rows : List (List Int)} {r0 : List Int} (hf : f ≠ l) (hw : w ≤ 40) (hn : rows.length ≤ 1000) (hr : Cl w r0) (I : RI l f w μ0 rows μ) (o5 o7 o8 o9 o10 o11 o12 : Option D) :
    ∃ (r : List Int) (o7' o8' o9' : Option D) (μ' : Mem), Cl w r ∧ RI l f w μ0 rows μ' ∧ moreB (slR l w most style f o5 (some (tI r0)) o7 o8 o9 o10 o11 o12) μ = .nx (slR l w most style f o5 (some (tI r)) o7' o8' o9' o10 o11 o12) μ' := by
  have ne := ne_rows I.fd
  have l0 : gLstD [] μ = some (.lst []) := rfl
  by_cases hs : style = 1
  · subst hs
    by_cases he : rows = []
    · subst he
      refine ⟨r0, o7, o8, o9, μ, hr, I, ?_⟩
      simp [eVar_run, l0, ne]
    · have hx : encR rows ≠ [] := by simpa using he
      have hie : rows.isEmpty = false := by simpa using he
      have hxl : (encR rows).length < 1073741824 := by simp; omega
      obtain ⟨y1, μ1, e1, m1, b1, s1⟩ := pickML I.fd hf I.bx hx hxl
      have I1 := I.stay hf b1 s1
      obtain ⟨y2, μ2, ee2, m2, b2, s2⟩ := pickML I1.fd hf I1.bx hx hxl
      have I2 := I1.stay hf b2 s2
      obtain ⟨c, μ3, e3, c0, c1, b3, s3⟩ := takeM (m := 257) I2.bx (by omega) (by omega)
      have I3 := I2.stay hf b3 s3
      obtain ⟨one, ho, rfl⟩ := mem_encR m1
      obtain ⟨oth, hh, rfl⟩ := mem_encR m2
      have c1' := I.rw _ ho
      have c2' := I.rw _ hh
      refine ⟨mix one c oth, some (tI one), some (tI oth), some (.int c), μ3, mix_cl c1'.1 c2'.1, I3, ?_⟩
      have lc := lcL_zip2 (e1 := D.int) (e2 := D.int) (me := (e2 gMod (eAs gInt (aCons (e2 gAdd (eVar 11) (e2 gMul (eVar 9) (eVar 12))) aNil)) (eC (.int 257)))) (δ := slR l w most 1 f o5 (some (tI r0)) (some (tI one)) (some (tI oth)) (some (.int c)) o10 none none) (μ := μ3) (f := fun x y => D.int ((x + c * y) % 257)) (i := 11) (j := 12) one oth fun x _ y _ => by
        have := gMul_c (x := c) (y := y) (μ := μ3) ⟨c0, c1⟩
        simp [eVar_run, this, gMod_int]
      have em : List.zipWith (fun x y => D.int ((x + c * y) % 257)) one oth = (mix one c oth).map D.int := by rw [mix, List.map_zipWith]
      rw [em] at lc
      have sz : ((mix one c oth).map D.int).length ≤ sizeLine := szN (by have := (mix_cl (c := c) c1'.1 c2'.1).1; simp; omega)
      simp only [tI] at *
      generalize (mix one c oth).map D.int = zs at *
      generalize one.map D.int = os at *
      generalize oth.map D.int = ths at *
      simp [eVar_run, l0, ne, hie, e1, ee2, e3, wipeD, lc, sz]
  · refine ⟨r0, o7, o8, o9, μ, hr, I, ?_⟩
    simp [eVar_run, hs]
abbrev rowsL (n : Nat) : List D := (List.range n).map fun (k : Nat) => D.int (k : Int)
theorem rows_loop {l w f : Nat} {most style : Int} {μ0 : Mem} (hf : f ≠ l) (hw : w ≤ 40) (fn : μ0.length ≤ f) (n : Nat) (hn : n ≤ 40) {μ : Mem} (o5 o6 o7 o8 o9 o10 o11 o12 : Option D) (I : RI l f w μ0 [] μ) :
    ∃ δ' μ', loopS (gNm 5) rowB' (rowsL n) (slR l w most style f o5 o6 o7 o8 o9 o10 o11 o12) μ = .nx δ' μ' ∧ ∃ (rows : List (List Int)) (p5 p6 p7 p8 p9 p10 p11 p12 : Option D), rows.length = n ∧ RI l f w μ0 rows μ' ∧ δ' = slR l w most style f p5 p6 p7 p8 p9 p10 p11 p12 := by
  have := loopS_at (g := gNm 5) (b := rowB') (I := fun k δ μ => ∃ (rows : List (List Int)) (p5 p6 p7 p8 p9 p10 p11 p12 : Option D), rows.length = k ∧ RI l f w μ0 rows μ ∧ δ = slR l w most style f p5 p6 p7 p8 p9 p10 p11 p12) (rowsL n) 0 (δ := slR l w most style f o5 o6 o7 o8 o9 o10 o11 o12) (μ := μ) (fun k d δ μ hk hI => by
    obtain ⟨rows, p5, p6, p7, p8, p9, p10, p11, p12, hl, I, rfl⟩ := hI
    obtain ⟨hk', rfl⟩ := rng_get hk
    obtain ⟨r1, μ1, cr1, I1, e1⟩ := row_ok (most := most) (style := style) hf hw I (some (.int (k : Int))) p6 p7 p8 p9 p10 p11 p12
    obtain ⟨r2, q7, q8, q9, μ2, cr2, I2, e2⟩ := more_ok (most := most) (style := style) hf hw (by omega) cr1 I1 (some (.int (k : Int))) p7 p8 p9 p10 p11 p12
    have ap := mtL_app (mo := eVar 4) (ma := aCons (eVar 6) aNil) (δ := slR l w most style f (some (.int (k : Int))) (some (tI r2)) q7 q8 q9 p10 p11 p12) (y := tI r2) rfl I2.fd rfl I2.fd (by simp; omega)
    have fl : f < μ2.length := (List.getElem?_eq_some_iff.mp I2.fd).1
    refine ⟨slR l w most style f (some (.int (k : Int))) p6 p7 p8 p9 p10 p11 p12, slR l w most style f (some (.int (k : Int))) (some (tI r2)) q7 q8 q9 p10 p11 p12, μ, μ2.set f (.lst (encR rows ++ [tI r2])), rfl, .inl ?_, rows ++ [r2], _, _, _, _, _, _, _, _, by simp [hl], ⟨I2.bx.set hf, by rw [List.getElem?_set_self fl, encR, encR, List.map_append]; rfl, I2.kp.set fn, fun r hr => ?_⟩, rfl⟩
    · unfold rowB'
      rw [seq_nx e1, seq_nx e2, sDrop_run, ap]
      rfl
    · rcases List.mem_append.mp hr with h | h
      · exact I2.rw r h
      · rw [List.mem_singleton.mp h]; exact cr2) ⟨[], _, _, _, _, _, _, _, _, rfl, I, rfl⟩
  obtain ⟨δ', μ', e, rows, p5, p6, p7, p8, p9, p10, p11, p12, hl, I', rfl⟩ := this
  exact ⟨_, μ', e, rows, p5, p6, p7, p8, p9, p10, p11, p12, by simpa using hl, I', rfl⟩
theorem rows_ok {l : Nat} {most : Int} {μ : Mem} (hb : Bx μ l) (m1 : 1 ≤ most) (m2 : most ≤ 40) : ∃ (rows : List (List Int)) (w : Nat) (μ' : Mem), callM f__law_rows [.loc l, .int most] μ = .ok (.lst (encR rows)) μ' ∧ RR rows w ∧ (w : Int) ≤ most ∧ (rows.length : Int) ≤ most ∧ Bx μ' l ∧ Kp l μ μ' := by
  have hlt := hb.lt
  obtain ⟨a, μ1, e1, a0, a1, b1, s1⟩ := takeM (m := most) hb (by omega) (by omega)
  obtain ⟨style, μ2, ee2, st0, st1, b2, s2⟩ := takeM (m := 4) b1 (by omega) (by omega)
  obtain ⟨μ3, hμ3⟩ : ∃ μ3 : Mem, μ3 = μ2 ++ [.lst []] := ⟨_, rfl⟩
  have len2 : μ2.length = μ.length := s2.1.trans s1.1
  obtain ⟨c, μ4, e4, c0, c1, b4, s4⟩ := takeM (m := most) (μ := μ3) (l := l) (by rw [hμ3]; exact b2.app) (by omega) (by omega)
  obtain ⟨w, hw⟩ : ∃ w : Nat, (w : Int) = 1 + a := ⟨(1 + a).toNat, by omega⟩
  obtain ⟨n, hn⟩ : ∃ n : Nat, (n : Int) = 1 + c := ⟨(1 + c).toNat, by omega⟩
  have hf : μ.length ≠ l := by omega
  have fd3 : μ3[μ.length]? = some (.lst (encR [])) := by rw [hμ3, ← len2]; simp
  have I : RI l μ.length w μ [] μ4 := ⟨b4, (s4.2 _ hf).trans fd3, ((Kp.of s1).trans (Kp.of s2)).trans ((by rw [hμ3]; exact Kp.app l μ2 _ : Kp l μ2 μ3).trans (.of s4)), fun r hr => by simp at hr⟩
  obtain ⟨δ', μ5, e5, rows, p5, p6, p7, p8, p9, p10, p11, p12, hl, I5, rfl⟩ := rows_loop (most := most) (style := style) hf (by omega) (Nat.le_refl _) n (by omega) none none none none none none none none I
  have fz := frz_at (δ := slR l w most style μ.length p5 p6 p7 p8 p9 p10 p11 p12) (i := 4) rfl I5.fd
  have run : f__law_rows [.loc l, .int most] μ = .ok (.lst (encR rows)) (μ5.set μ.length .gone) := by
    refine body_ret (δ := [some (.loc l), some (.int most), none, none, none, none, none, none, none, none, none, none, none]) rfl ?_
    unfold m__law_rows
    rw [seq_nx (δ1 := [some (.loc l), some (.int most), some (.int (w : Int)), some (.int style), none, none, none, none, none, none, none, none, none]) (μ1 := μ2) (by
      simp [eVar_run, e1, ee2, gTupD_run, hw])]
    rw [seq_nx (δ1 := slR l w most style μ.length none none none none none none none none) (μ1 := μ3) (by
      have : gNewL [] μ2 = some (.loc μ.length, μ3) := by rw [hμ3, ← len2]; rfl
      simp [this])]
    have rr := range1_run (mr := (aCons (e2 gAdd (eC (.int 1)) (eCallM f__law_take (aCons (eVar 0) (aCons (eVar 1) aNil)))) aNil)) (δ := slR l w most style μ.length none none none none none none none none) (μ := μ3) (μ1 := μ4) (n := n) (by simp [eVar_run, e4, hn]) (by omega)
    rw [seq_nx (δ1 := slR l w most style μ.length p5 p6 p7 p8 p9 p10 p11 p12) (μ1 := μ5) (by rw [sFor_run, rr]; exact e5)]
    rw [seq_nx fz]
    generalize encR rows = rs
    simp [eVar_run]
  have hlen : μ.length ≤ μ5.length := I5.kp.1
  obtain ⟨μ6, e6, l6, g6⟩ := callM_any run (by rw [List.length_set]; exact hlen)
  refine ⟨rows, w, μ6, e6, ⟨by omega, by omega, by omega, by omega, I5.rw⟩, by omega, by omega, ?_, l6, fun i hi n => ?_⟩
  · obtain ⟨x, y, z, e⟩ := I5.bx
    exact ⟨x, y, z, by rw [g6 l hlt, List.getElem?_set_ne hf]; exact e⟩
  · rw [g6 i hi, List.getElem?_set_ne (by omega)]
    exact I5.kp.2 i hi n
end K04

set_option Elab.async false
set_option linter.all false
set_option maxRecDepth 100000
namespace K04
open PySem PySem.Spec PyProof.Rows L2 Kw
/-! ### values, bent -/
def sclE (t : Int) : D → D
  | .int x => if 0 ≤ x ∧ x < 257 then .int (x * t % 257) else .int x
  | d => d
theorem sclE_ent {t : Int} {d : D} (h : Ent d) : Ent (sclE t d) := by
  cases h with
  | int i =>
    unfold sclE
    by_cases e : 0 ≤ i ∧ i < 257
    · simp only [e, and_self, if_true]; exact .int _
    · simp only [e, if_false]; exact .int _
  | non => exact .non
  | bl b => exact .bl b
  | str => exact .str
  | tup => exact .tup
abbrev sclM : EM := (eIfM (tAndM (tTru (e1 (gIsi ["int"]) (eVar 7))) (tAndM (tNotM (tTru (e1 (gIsi ["bool"]) (eVar 7)))) (tBl (eChn gLe gLt (eC (.int 0)) (eVar 7) (eC (.int 257)))))) (e2 gMod (eAs gInt (aCons (e2 gMul (eVar 7) (eVar 5)) aNil)) (eC (.int 257))) (eVar 7))
theorem sclM_ok {d a0 a1 a2 a3 a4 a6 : D} {t : Int} (h : Ent d) (ht : 0 ≤ t ∧ t < 257) (s0 s1 s2 s3 s4 s6 : Option D) (μ : Mem) : sclM [s0, s1, s2, s3, s4, some (.int t), s6, some d] μ = .ok (sclE t d) μ := by
  have v : ∀ μ, vOf (some (some d)) μ = .ok d μ := fun μ => by cases h <;> rfl
  cases h with
  | int i =>
    have hm := gMul_c' (x := i) (y := t) (μ := μ) ht
    by_cases h0 : 0 ≤ i <;> by_cases h1 : i < 257 <;> simp [eVar_run, isi_int (.int i), isi_bool (.int i), h0, h1, sclE, hm, gMod_int]
  | non => simp [eVar_run, isi_int .non, sclE]
  | bl b => simp [eVar_run, isi_int (.bl b), isi_bool (.bl b), sclE]
  | str => simp [eVar_run, isi_int .str, sclE]
  | tup => simp [eVar_run, isi_int .tup, sclE]
/-- what bent begins with -/
inductive Beg (n : Nat) : D → Prop
  | non : Beg n .non
  | row (r : List Int) (h : Cl n r) : Beg n (tI r)
abbrev rowE : EM := (eIfM (tBl (e2 gIsNot (eVar 2) (eC .non))) (eAsM gNewList (aCons (eVar 2) aNil)) (eLcN true (nOf (iRange1 (aCons (eVar 1) aNil))) (gNm 7) tYesM (eCallM f__law_take (aCons (eVar 0) (aCons (eC (.int 257)) aNil))) [7]))
theorem rowE_ok {l n : Nat} {v : D} {μ : Mem} (hb : Bx μ l) (hv : Beg n v) (hn : n ≤ 40) : ∃ (r : List Int) (f : Nat) (μ' : Mem), rowE [some (.loc l), some (.int (n : Int)), some v, none, none, none, none, none] μ = .ok (.loc f) μ' ∧ Cl n r ∧ μ'[f]? = some (.lst (r.map D.int)) ∧ μ.length ≤ f ∧ Bx μ' l ∧ Kp l μ μ' := by
  cases hv with
  | non =>
    have rr := range1_run (mr := aCons (eVar 1) aNil) (δ := [some (.loc l), some (.int (n : Int)), some .non, none, none, none, none, none]) (μ := μ) (μ1 := μ) (n := n) rfl (by omega)
    obtain ⟨ys, μ', e, ⟨b', k', len'⟩, hl, hp⟩ := lcL_eff (e := fun (k : Nat) => D.int (k : Int)) (me := (eCallM f__law_take (aCons (eVar 0) (aCons (eC (.int 257)) aNil)))) (δ := [some (.loc l), some (.int (n : Int)), some .non, none, none, none, none, none]) (i := 7) (I := fun μ1 => Bx μ1 l ∧ Kp l μ μ1 ∧ μ1.length = μ.length) (P := fun y => ∃ c, y = .int c ∧ 0 ≤ c ∧ c < 257) (List.range n) μ (fun k _ μ1 ⟨b1, k1, len⟩ => by
      obtain ⟨c, μ2, ht, c0, c1, hb, st⟩ := takeM (m := 257) b1 (by omega) (by omega)
      exact ⟨.int c, μ2, by simp [eVar_run, ht], ⟨hb, k1.trans (.of st), st.1.trans len⟩, c, rfl, c0, c1⟩) ⟨hb, .refl l μ, rfl⟩
    obtain ⟨r, rfl, hr⟩ := ints_of ys hp
    have sz : (r.map D.int).length ≤ sizeLine := szN (by rw [hl]; simp; omega)
    refine ⟨r, μ'.length, μ' ++ [.lst (r.map D.int)], ?_, ⟨by simpa using hl, hr⟩, by simp, by omega, b'.app, k'.trans (Kp.app l μ' _)⟩
    unfold rowE
    rw [eIf_run]
    simp only [eLcN_fix]
    generalize r.map D.int = rs at *
    have nn : gIsNot .non .non μ = some (.bl false) := rfl
    simp [eVar_run, nn, rr, wipeD, e, sz]
  | row r h =>
    refine ⟨r, μ.length, μ ++ [.lst (r.map D.int)], ?_, h, by simp, Nat.le_refl _, hb.app, Kp.app l μ _⟩
    have nl : gNewList [tI r] μ = some (.loc μ.length, μ ++ [.lst (r.map D.int)]) := rfl
    have nn : gIsNot (tI r) .non μ = some (.bl true) := rfl
    simp [eVar_run, nn, nl]
theorem bent_ok {l n : Nat} {v : D} {μ : Mem} (hb : Bx μ l) (hv : Beg n v) (h1 : 1 ≤ n) (hn : n ≤ 40) : ∃ (y : D) (o : Option (List D)) (μ' : Mem), callM f__law_bent [.loc l, .int (n : Int), v] μ = .ok y μ' ∧ Kd y o ∧ Bx μ' l ∧ Kp l μ μ' := by
  have vv : ∀ μ, vOf (some (some v)) μ = .ok v μ := fun μ => by cases hv <;> rfl
  obtain ⟨r, f, μ1, e1, cr, f1, fl, b1, k1⟩ := rowE_ok hb hv hn
  have hlt := hb.lt
  have hfl : f ≠ l := by omega
  obtain ⟨a, μ2, t2, a0, a1, b2, s2⟩ := takeM (m := n) b1 (by omega) (by omega)
  obtain ⟨k, rfl⟩ : ∃ k : Nat, a = (k : Int) := ⟨a.toNat, by omega⟩
  have f2 := (s2.2 f hfl).trans f1
  have kl : k < r.length := by rw [cr.1]; omega
  have ix : gIx (.loc f) (.int (k : Int)) μ2 = some (.int (at0 r k)) := by
    have := ix_nat (x := .loc f) (k := k) (μ := μ2) (xs := r.map D.int) (by simp [seqOf, lstOf, f2])
    rw [List.getElem?_map, List.getElem?_eq_getElem kl] at this
    rw [this, at0_lt kl]
    rfl
  obtain ⟨e, μ3, t3, he, b3, s3⟩ := pickM (xs := [.int (at0 r k), .int (at0 r k), .int ((at0 r k + 1) % 257), .int 257, .int (-1), .non, .bl true, .str "0", .tup [.int 0]]) b2 (by simp) (by simp)
  have ent : Ent e := by
    simp only [List.mem_cons, List.mem_nil_iff, or_false] at he
    rcases he with h | h | h | h | h | h | h | h | h <;> subst h
    · exact .int _
    · exact .int _
    · exact .int _
    · exact .int _
    · exact .int _
    · exact .non
    · exact .bl _
    · exact .str
    · exact .tup
  have f3 := (s3.2 f hfl).trans f2
  have sa := set_at (l := f) (μ := μ3) (k := k) (y := e) f3 (by simpa using kl)
  obtain ⟨R, hR⟩ : ∃ R, R = (r.map D.int).set k e := ⟨_, rfl⟩
  have hRe : ∀ d ∈ R, Ent d := fun d hd => by
    rw [hR] at hd
    rcases List.mem_or_eq_of_mem_set hd with h | rfl
    · exact ents_ints r d h
    · exact ent
  have hRl : R.length = n := by rw [hR]; simp [cr.1]
  rw [← hR] at sa
  obtain ⟨μ4, hμ4⟩ : ∃ μ4 : Mem, μ4 = μ3.set f (.lst R) := ⟨_, rfl⟩
  rw [← hμ4] at sa
  have fl3 : f < μ3.length := (List.getElem?_eq_some_iff.mp f3).1
  have b4 : Bx μ4 l := by rw [hμ4]; exact b3.set hfl
  have f4 : μ4[f]? = some (.lst R) := by rw [hμ4]; exact List.getElem?_set_self fl3
  obtain ⟨t, μ5, t5, t0, t1, b5, s5⟩ := takeM (m := 256) b4 (by omega) (by omega)
  have f5 := (s5.2 f hfl).trans f4
  obtain ⟨μ6, hμ6⟩ : ∃ μ6 : Mem, μ6 = μ5.set f .gone := ⟨_, rfl⟩
  have b6 : Bx μ6 l := by rw [hμ6]; exact b5.set hfl
  have k6 : Kp l μ μ6 := by
    rw [hμ6]
    refine Kp.set ?_ fl
    refine Kp.trans ?_ (Kp.of s5)
    rw [hμ4]
    refine Kp.set ?_ fl
    exact (k1.trans (.of s2)).trans (.of s3)
  obtain ⟨S, hS⟩ : ∃ S, S = R.map (sclE (1 + t)) := ⟨_, rfl⟩
  have hSe : ∀ d ∈ S, Ent d := fun d hd => by
    rw [hS] at hd
    obtain ⟨d', h', rfl⟩ := List.mem_map.mp hd
    exact sclE_ent (hRe d' h')
  have hSl : S.length = n := by rw [hS]; simp [hRl]
  have tt : 0 ≤ 1 + t ∧ 1 + t < 257 := ⟨by omega, by omega⟩
  have lc : lcL (gNm 7) tYesM sclM [some (.loc l), some (.int (n : Int)), some v, some (.lst R), some (.int (k : Int)), some (.int (1 + t)), none, none] R μ6 = .ok S μ6 := by
    have := lcL_map (e := id) (f := sclE (1 + t)) (me := sclM) (δ := [some (.loc l), some (.int (n : Int)), some v, some (.lst R), some (.int (k : Int)), some (.int (1 + t)), none, none]) (μ := μ6) (i := 7) R fun d hd => sclM_ok (a0 := d) (a1 := d) (a2 := d) (a3 := d) (a4 := d) (a6 := d) (hRe d hd) tt _ _ _ _ _ _ μ6
    rw [List.map_id] at this
    rw [this, hS]
  have szS : S.length ≤ sizeLine := szN (by omega)
  have le : eLc (iSeq (eVar 3)) (gNm 7) tYesM sclM [7] [some (.loc l), some (.int (n : Int)), some v, some (.lst R), some (.int (k : Int)), some (.int (1 + t)), none, none] μ6 = .ok (.lst S) μ6 := by
    unfold eLc
    have hw : wipeD [some (.loc l), some (.int (n : Int)), some v, some (.lst R), some (.int (k : Int)), some (.int (1 + t)), none, none] [7] = [some (.loc l), some (.int (n : Int)), some v, some (.lst R), some (.int (k : Int)), some (.int (1 + t)), none, none] := rfl
    rw [hw]
    simp only [iSeq_run, eVar_run, List.getElem?_cons_zero, List.getElem?_cons_succ, vOf_lst, bind_ok, seqV_lst, lc]
    rw [if_pos szS]
  have n1 : (n : Int) ≤ 1000 := by omega
  have rl : gRep (.lst [.int 0]) (.int (n : Int)) μ6 = some (.lst ((List.replicate n (0 : Int)).map D.int)) := by
    unfold gRep
    simp only
    rw [zero_row, if_pos]
    refine ⟨by omega, by omega, szN (by simp; omega)⟩
  have rs : gRep (.str "0") (.int (n : Int)) μ6 = some (.str (Txt.mul "0" (n : Int))) := by
    unfold gRep
    simp only
    rw [if_pos]
    exact ⟨by omega, n1, by decide⟩
  have sl : gSl (.lst R) (some 1) none μ6 = some (.lst (Kw.cutD R (some 1) none)) := rfl
  have ad : gAdd (.lst R) (.lst [.int 0]) μ6 = some (.lst (R ++ [.int 0])) := by
    have : R.length + 1 ≤ sizeLine := szN (by omega)
    simp [gAdd, this]
  have gt : gTuple [.lst R] μ6 = some (.tup R) := rfl
  obtain ⟨y, μ7, t7, hy, b7, s7⟩ := pickM (xs := [.lst R, .tup R, .lst S, .lst S, .lst (Kw.cutD R (some 1) none), .lst (R ++ [.int 0]), .lst ((List.replicate n (0 : Int)).map D.int), .non, .str (Txt.mul "0" (n : Int)), .int 0]) b6 (by simp) (by simp)
  have kd : ∃ o, Kd y o := by
    simp only [List.mem_cons, List.mem_nil_iff, or_false] at hy
    rcases hy with h | h | h | h | h | h | h | h | h | h <;> subst h
    · exact ⟨_, .lst hRe (by omega)⟩
    · exact ⟨_, .tup hRe (by omega)⟩
    · exact ⟨_, .lst hSe (by omega)⟩
    · exact ⟨_, .lst hSe (by omega)⟩
    · refine ⟨_, .lst (fun d hd => hRe d ?_) ?_⟩
      · exact List.mem_of_mem_drop (List.mem_of_mem_take hd)
      · unfold Kw.cutD; rw [List.length_take, List.length_drop]; omega
    · refine ⟨_, .lst (fun d hd => ?_) (by simp; omega)⟩
      rcases List.mem_append.mp hd with h | h
      · exact hRe d h
      · rw [List.mem_singleton.mp h]; exact .int 0
    · exact ⟨_, .lst (ents_ints _) (by simp; omega)⟩
    · exact ⟨_, .no .non⟩
    · exact ⟨_, .no (.str _)⟩
    · exact ⟨_, .no (.int 0)⟩
  obtain ⟨o, kd⟩ := kd
  have fz := frz_at (δ := [some (.loc l), some (.int (n : Int)), some v, some (.loc f), some (.int (k : Int)), some (.int (1 + t)), none, none]) (μ := μ5) (i := 3) rfl f5
  rw [← hμ6] at fz
  have run : f__law_bent [.loc l, .int (n : Int), v] μ = .ok y μ7 := by
    refine body_ret (δ := [some (.loc l), some (.int (n : Int)), some v, none, none, none, none, none]) rfl ?_
    unfold m__law_bent
    rw [seq_nx (δ1 := [some (.loc l), some (.int (n : Int)), some v, some (.loc f), none, none, none, none]) (μ1 := μ1) (asg_nx e1)]
    rw [seq_nx (δ1 := [some (.loc l), some (.int (n : Int)), some v, some (.loc f), some (.int (k : Int)), none, none, none]) (μ1 := μ2) (by simp [eVar_run, t2])]
    rw [seq_nx (δ1 := [some (.loc l), some (.int (n : Int)), some v, some (.loc f), some (.int (k : Int)), none, none, none]) (μ1 := μ4) (by simp [eVar_run, ix, gMod_int, gLstD_run, gTupD_run, t3, sa])]
    rw [seq_nx (δ1 := [some (.loc l), some (.int (n : Int)), some v, some (.loc f), some (.int (k : Int)), some (.int (1 + t)), none, none]) (μ1 := μ5) (by simp [eVar_run, t5])]
    rw [seq_nx fz]
    rw [seq_nx (δ1 := [some (.loc l), some (.int (n : Int)), some v, some (.lst R), some (.int (k : Int)), some (.int (1 + t)), some (.lst S), none]) (μ1 := μ6) (asg_nx le)]
    generalize (List.replicate n (0 : Int)).map D.int = zs at *
    generalize Txt.mul "0" (n : Int) = z2 at *
    simp [eVar_run, eSl, oSome, oNo, rl, rs, sl, ad, gt, gLstD_run, t7]
  have len7 : μ.length ≤ μ7.length := by rw [s7.1]; exact k6.1
  obtain ⟨μ8, e8, l8, g8⟩ := callM_any run len7
  refine ⟨y, o, μ8, e8, kd, ?_, l8, fun i hi n => ?_⟩
  · obtain ⟨x, y', z, e⟩ := b7
    exact ⟨x, y', z, by rw [g8 l hlt]; exact e⟩
  · rw [g8 i hi, s7.2 i n]
    exact k6.2 i hi n
end K04

set_option Elab.async false
set_option linter.all false
set_option maxRecDepth 100000
namespace K04
open PySem PySem.Spec PyProof.Rows L2 Kw
/-! ### the law's own looks -/
abbrev due1E : EM := (eAndM (eCallP f__law_is_row (aCons (eVar 7) (aCons (eAs gLen (aCons (e2 gIx (eVar 3) (eC (.int 0))) aNil)) aNil))) (e2 gEq (eLc (iSeq (eVar 3)) (gNm 11) tYesM (eCallP f__law_product (aCons (eVar 11) (aCons (eVar 7) aNil))) [11]) (eAs gList (aCons (eVar 4) aNil))))
abbrev due2E : EM := (eAndM (eCallP f__law_is_row (aCons (eVar 8) (aCons (eAs gLen (aCons (eVar 3) aNil)) aNil))) (eAndM (eNotM (eAs gAnyF (aCons (eCallP f__law_sum (aCons (eVar 3) (aCons (eVar 8) aNil))) aNil))) (e2 gNe (eCallP f__law_product (aCons (eVar 8) (aCons (eVar 4) aNil))) (eC (.int 0)))))
abbrev slL (ns : List Int) (k : Int) (l : Nat) (rows : List (List Int)) (g : List Int) (d5 d6 v7 v8 : D) (o9 o10 o11 : Option D) : Sv := [some (.scr (ns.map D.int)), some (.int k), some (.loc l), some (.lst (encR rows)), some (tI g), some d5, some d6, some v7, some v8, o9, o10, o11]
theorem ix_lst0 {rows : List (List Int)} {w : Nat} (h : RR rows w) (μ : Mem) : ∃ r0, gIx (.lst (encR rows)) (.int 0) μ = some (tI r0) ∧ r0.length = w := by
  obtain ⟨r0, hr0, c0⟩ := h.at
  refine ⟨r0, ?_, c0.1⟩
  have := ix_nat (x := .lst (encR rows)) (k := 0) (μ := μ) rfl
  rw [List.getElem?_map, hr0] at this
  exact this
theorem rowB_ints' {n : Nat} {is : List Int} (h : Cl n is) : rowB n (some (is.map D.int)) = true := by
  simp only [rowB, List.length_map, h.1, decide_true, Bool.true_and]
  exact ints_cells is h.2
section
variable {ns : List Int} {k : Int} {l w : Nat} {rows : List (List Int)} {g : List Int} {d5 d6 v7 v8 : D} {o7 o8 : Option (List D)}
theorem due1_ok (h : RR rows w) (hg : Cl rows.length g) (hv : Kd v7 o7) (o9 o10 o11 : Option D) (μ : Mem) : ∃ b, due1E (slL ns k l rows g d5 d6 v7 v8 o9 o10 o11) μ = .ok (.bl b) μ ∧ f_solution_holds [.lst (encR rows), tI g, v7] [] = .ok (.bl b) [] ∧ f_solution_holds [.tup (encR rows), .lst (g.map D.int), v7] [] = .ok (.bl b) [] := by
  have n2 := h.n2
  have w2 := h.w2
  have vv : ∀ μ, vOf (some (some v7)) μ = .ok v7 μ := fun μ => hv.vo
  obtain ⟨r0, i0, l0⟩ := ix_lst0 h μ
  have ir := callP_ok (μ := μ) (law_is_row_ok hv w) (by simp [locBs, hv.loc]; rfl) rfl
  obtain ⟨s1, s2⟩ := solution_holds_ok h (.inl rfl) (.t g) hg hv
  obtain ⟨s3, s4⟩ := solution_holds_ok h (.inr rfl) (.l g) hg hv
  cases hb : rowB w o7 with
  | false =>
    rw [hb] at ir
    refine ⟨false, ?_, s1 hb, s3 hb⟩
    simp only [slL]
    generalize encR rows = rs at *
    simp [eVar_run, vv, i0, l0, ir]
  | true =>
    obtain ⟨is, rfl, his⟩ := rowB_ints hb
    rw [hb] at ir
    refine ⟨solB rows g is, ?_, s2 is rfl his, s4 is rfl his⟩
    have sv := hv.sq
    have lc := lcL_map (e := tI) (f := fun r => D.int (prod r is)) (me := eCallP f__law_product (aCons (eVar 11) (aCons (eVar 7) aNil))) (δ := slL ns k l rows g d5 d6 v7 v8 o9 o10 none) (μ := μ) (i := 11) rows fun r hr => by
      have p := lprod_c (.t r) sv (h.r r hr).2 (by rw [(h.r r hr).1]; omega) μ
      simp only [slL]
      generalize encR rows = rs
      simp [eVar_run, vv, p]
    have fe : (rows.map fun r => D.int (prod r is)) = (rows.map fun r => prod r is).map D.int := by rw [List.map_map]; rfl
    rw [fe, show rows.map tI = encR rows from rfl] at lc
    have sz : ((rows.map fun r => prod r is).map D.int).length ≤ sizeLine := szN (by simp; omega)
    have eq := eq_ints (rows.map fun r => prod r is) g μ
    unfold solB
    generalize (rows.map fun r => prod r is).map D.int = zs at *
    simp only [slL] at *
    generalize encR rows = rs at *
    simp [eVar_run, vv, i0, l0, ir, wipeD, lc, sz, eq]
theorem due2_ok (h : RR rows w) (hg : Cl rows.length g) (hv : Kd v8 o8) (o9 o10 o11 : Option D) (μ : Mem) (t : Told rows w g d5) : ∃ b, due2E (slL ns k l rows g d5 d6 v7 v8 o9 o10 o11) μ = .ok (.bl b) μ ∧ f_reasons_hold [.lst (encR rows), tI g, v8] [] = .ok (.bl b) [] ∧ f_reasons_hold [.tup (encR rows), .lst (g.map D.int), v8] [] = .ok (.bl b) [] ∧ (b = true → d5 = .non) := by
  have n2 := h.n2
  have w2 := h.w2
  have vv : ∀ μ, vOf (some (some v8)) μ = .ok v8 μ := fun μ => hv.vo
  have gl : ((encR rows).length : Int) = (rows.length : Int) := by simp
  have ir := callP_ok (μ := μ) (law_is_row_ok hv rows.length) (by simp [locBs, hv.loc]; rfl) rfl
  obtain ⟨s1, s2⟩ := reasons_hold_ok h (.inl rfl) (.t g) hg hv
  obtain ⟨s3, s4⟩ := reasons_hold_ok h (.inr rfl) (.l g) hg hv
  cases hb : rowB rows.length o8 with
  | false =>
    rw [hb] at ir
    refine ⟨false, ?_, s1 hb, s3 hb, fun z => by cases z⟩
    simp only [slL]
    generalize encR rows = rs at *
    simp [eVar_run, vv, gl, ir]
  | true =>
    obtain ⟨is, rfl, his⟩ := rowB_ints hb
    rw [hb] at ir
    refine ⟨reaB rows w g is, ?_, s2 is rfl his, s4 is rfl his, fun z => ?_⟩
    · have sv := hv.sq
      have ls := callP_ok (μ := μ) (law_sum_ok h sv his.1) (by simp [locBs, locB, loc_encR, hv.loc]) (loc_tI _ _ _)
      have p := lprod_c sv (.t g) his.2 (by rw [his.1]; omega) μ
      have an := anyF_ints (sumL rows is w) μ
      unfold reaB
      generalize ((sumL rows is w).any fun x => x != 0) = bb at *
      simp only [slL, tI] at *
      generalize (sumL rows is w).map D.int = zs at *
      generalize encR rows = rs at *
      generalize g.map D.int = gs at *
      cases bb <;> simp [eVar_run, vv, gl, ir, ls, an, p]
    · by_cases e : d5 = .non
      · exact e
      · rw [told_bars h hg t e] at z
        cases z
end
theorem Told.vo {rows : List (List Int)} {w : Nat} {g : List Int} {d : D} (t : Told rows w g d) (μ : Mem) : vOf (some (some d)) μ = .ok d μ := by cases t <;> rfl
/-- what the first of the told is -/
def oneOf : D → D
  | .tup (a :: _) => a
  | _ => .non
theorem Told.one {rows : List (List Int)} {w : Nat} {g : List Int} {d : D} (t : Told rows w g d) : Beg w (oneOf d) ∧ (∀ μ δ, δ[5]? = some (some d) → (eIfM (tBl (e2 gIsNot (eVar 5) (eC .non))) (e2 gIx (eVar 5) (eC (.int 0))) (eC .non)) δ μ = .ok (oneOf d) μ) := by
  cases t with
  | no G p hp hz =>
    refine ⟨.non, fun μ δ h => ?_⟩
    have nn : gIsNot .non .non μ = some (.bl false) := rfl
    simp [eVar_run, h, nn, oneOf]
  | yes G x frs O hz oz hl hf =>
    refine ⟨.row x O.cl, fun μ δ h => ?_⟩
    have nn : gIsNot (.tup [tI x, .tup (encR frs)]) .non μ = some (.bl true) := rfl
    have ix : gIx (.tup [tI x, .tup (encR frs)]) (.int 0) μ = some (tI x) := ix_nat (x := .tup [tI x, .tup (encR frs)]) (xs := [tI x, .tup (encR frs)]) (k := 0) (μ := μ) rfl
    simp [eVar_run, h, nn, ix, oneOf]
theorem Beg.kd {n : Nat} {d : D} (h : Beg n d) (hn : n ≤ 1000) : ∃ o, Kd d o := by
  cases h with
  | non => exact ⟨_, .no .non⟩
  | row r h => exact ⟨_, kd_tI (by rw [h.1]; exact hn)⟩
theorem Beg.vo {n : Nat} {d : D} (h : Beg n d) (μ : Mem) : vOf (some (some d)) μ = .ok d μ := by cases h <;> rfl
def LI (ns : List Int) (k : Int) (l w : Nat) (rows : List (List Int)) (g : List Int) (d5 d6 : D) (δ : Sv) (μ : Mem) : Prop := ∃ (v7 v8 : D) (o7 o8 : Option (List D)) (o9 o10 o11 : Option D), Kd v7 o7 ∧ Kd v8 o8 ∧ Bx μ l ∧ δ = slL ns k l rows g d5 d6 v7 v8 o9 o10 o11
theorem turn1_ok {ns : List Int} {k : Int} {l w : Nat} {rows : List (List Int)} {g : List Int} {d5 d6 v7 v8 : D} {o7 o8 : Option (List D)} (h : RR rows w) (hg : Cl rows.length g) (t : Told rows w g d5) (h6 : Beg rows.length d6) (k7 : Kd v7 o7) (k8 : Kd v8 o8) (o9 o10 o11 : Option D) {μ : Mem} (hb : Bx μ l) :
    ∃ δ2 μ2, m_law_b1 (slL ns k l rows g d5 d6 v7 v8 o9 o10 o11) μ = .nx δ2 μ2 ∧ LI ns k l w rows g d5 d6 δ2 μ2 := by
  have n1 := h.n1
  have n2 := h.n2
  have w1 := h.w1
  have w2 := h.w2
  have vv7 : ∀ μ, vOf (some (some v7)) μ = .ok v7 μ := fun μ => k7.vo
  have vv8 : ∀ μ, vOf (some (some v8)) μ = .ok v8 μ := fun μ => k8.vo
  have vv5 := t.vo
  have vv6 := h6.vo
  obtain ⟨b1, e1, p1, p2⟩ := due1_ok (ns := ns) (k := k) (l := l) (d5 := d5) (d6 := d6) (v8 := v8) h hg k7 o9 o10 o11 μ
  obtain ⟨b2, e2', p3, p4, hbn⟩ := due2_ok (ns := ns) (k := k) (l := l) (d5 := d5) (d6 := d6) (v7 := v7) h hg k8 o9 (some (.bl b1)) o11 μ t
  have q1 := callP_ok (μ := μ) p1 (by simp [locBs, locB, loc_encR, loc_ints, k7.loc]) rfl
  have q2 := callP_ok (μ := μ) p2 (by simp [locBs, locB, loc_encR, loc_ints, k7.loc]) rfl
  have q3 := callP_ok (μ := μ) p3 (by simp [locBs, locB, loc_encR, loc_ints, k8.loc]) rfl
  have q4 := callP_ok (μ := μ) p4 (by simp [locBs, locB, loc_encR, loc_ints, k8.loc]) rfl
  obtain ⟨sb1, r1, r2⟩ := same_repr b1 μ
  obtain ⟨sb2, r3, r4⟩ := same_repr b2 μ
  obtain ⟨bg, one⟩ := t.one
  obtain ⟨y7, o7', μ1, c7, k7', bx1, _⟩ := bent_ok hb bg w1 w2
  obtain ⟨y8, o8', μ2, c8, k8', bx2, _⟩ := bent_ok bx1 h6 n1 n2
  refine ⟨slL ns k l rows g d5 d6 y7 y8 o9 (some (.bl b2)) o11, μ2, ?_, y7, y8, o7', o8', _, _, _, k7', k8', bx2, rfl⟩
  unfold m_law_b1
  rw [seq_nx (δ1 := slL ns k l rows g d5 d6 v7 v8 o9 (some (.bl b1)) o11) (μ1 := μ) (asg_nx e1)]
  have pm1 : permL [2, 1, 0] [v7, .lst (g.map D.int), .tup (encR rows)] = [.tup (encR rows), .lst (g.map D.int), v7] := rfl
  have pm2 : permL [2, 1, 0] [v8, .lst (g.map D.int), .tup (encR rows)] = [.tup (encR rows), .lst (g.map D.int), v8] := rfl
  have gl : ((encR rows).length : Int) = (rows.length : Int) := by simp
  obtain ⟨r0, i0, l0⟩ := ix_lst0 h μ
  have gi : ∀ μ, gIsNot (.non) .non μ = some (.bl false) := fun μ => rfl
  rw [seq_nx (δ1 := slL ns k l rows g d5 d6 v7 v8 o9 (some (.bl b1)) o11) (μ1 := μ) (by
    simp only [slL, tI] at *
    generalize encR rows = rs at *
    generalize g.map D.int = gs at *
    simp [eVar_run, vv7, q1, pm1, q2, gLstD_run, r1, r2])]
  rw [seq_nx (δ1 := slL ns k l rows g d5 d6 v7 v8 o9 (some (.bl b2)) o11) (μ1 := μ) (asg_nx e2')]
  rw [seq_nx (δ1 := slL ns k l rows g d5 d6 v7 v8 o9 (some (.bl b2)) o11) (μ1 := μ) (by
    simp only [slL, tI] at *
    generalize encR rows = rs at *
    generalize g.map D.int = gs at *
    simp [eVar_run, vv8, q3, pm2, q4, gLstD_run, r3, r4])]
  rw [seq_nx (δ1 := slL ns k l rows g d5 d6 v7 v8 o9 (some (.bl b2)) o11) (μ1 := μ) (by
    cases b2 with
    | false => simp [eVar_run]
    | true =>
      have := hbn rfl
      subst this
      simp [eVar_run, gi])]
  have one' := one μ (slL ns k l rows g d5 d6 v7 v8 o9 (some (.bl b2)) o11) rfl
  have i1 : (eAs gLen (aCons (e2 gIx (eVar 3) (eC (.int 0))) aNil)) (slL ns k l rows g d5 d6 v7 v8 o9 (some (.bl b2)) o11) μ = .ok (.int (w : Int)) μ := by
    simp only [slL]
    generalize encR rows = rs at *
    simp [eVar_run, i0, l0]
  have ev2 : ∀ μ, eVar 2 (slL ns k l rows g d5 d6 v7 v8 o9 (some (.bl b2)) o11) μ = .ok (.loc l) μ := fun μ => rfl
  have ev6 : ∀ μ, eVar 6 (slL ns k l rows g d5 d6 v7 v8 o9 (some (.bl b2)) o11) μ = .ok d6 μ := fun μ => by rw [eVar_run]; exact vv6 μ
  have i2 : ∀ μ, (eAs gLen (aCons (eVar 3) aNil)) (slL ns k l rows g d5 d6 v7 v8 o9 (some (.bl b2)) o11) μ = .ok (.int (rows.length : Int)) μ := fun μ => by
    simp only [slL]
    generalize encR rows = rs at *
    simp [eVar_run, gl]
  have tg : gTupD [y7, y8] μ2 = some (.tup [y7, y8]) := gTupD_run (by simp)
  rw [sAsg_run, eAs_run]
  simp only [aCons_run, eCallM_run, ev2, bind_ok, i1, one', aNil_run, c7, i2, ev6, c8, tg, oOf_some, bindS_ok]
  rfl
/-! ### the law -/
theorem goals_ok {l w : Nat} {k : Int} {rows : List (List Int)} (h : RR rows w) {μ : Mem} (hb : Bx μ l) (s0 s4 s5 s6 s7 s8 s9 s10 s11 : Option D) : ∃ g μ', Cl rows.length g ∧ Bx μ' l ∧ (eAs gTuple (aCons (eLc (iSeq (eVar 3)) (gNm 11) tYesM (e2 gMul (eCallM f__law_take (aCons (eVar 2) (aCons (eC (.int 257)) aNil))) (eAs gInt (aCons (e2 gNe (eVar 1) (eC (.int 1))) aNil))) [11]) aNil)) [s0, some (.int k), some (.loc l), some (.lst (encR rows)), s4, s5, s6, s7, s8, s9, s10, s11] μ = .ok (tI g) μ' := by
  obtain ⟨ys, μ', e, hb', hl, hp⟩ := lcL_eff (e := tI) (me := (e2 gMul (eCallM f__law_take (aCons (eVar 2) (aCons (eC (.int 257)) aNil))) (eAs gInt (aCons (e2 gNe (eVar 1) (eC (.int 1))) aNil)))) (δ := [s0, some (.int k), some (.loc l), some (.lst (encR rows)), s4, s5, s6, s7, s8, s9, s10, none]) (i := 11) (I := fun μ1 => Bx μ1 l) (P := fun y => ∃ c, y = .int c ∧ 0 ≤ c ∧ c < 257) rows μ (fun r _ μ1 b1 => by
    obtain ⟨c, μ2, ht, c0, c1, hb, st⟩ := takeM (m := 257) b1 (by omega) (by omega)
    have gm := gMul_c (x := c) (y := if (!(k == 1)) = true then 1 else 0) (μ := μ2) ⟨c0, c1⟩
    refine ⟨.int (c * if (!(k == 1)) = true then 1 else 0), μ2, ?_, hb, _, rfl, ?_⟩
    · generalize encR rows = rs
      have gi : gInt [.bl (!(k == 1))] μ2 = some (.int (if (!(k == 1)) = true then 1 else 0)) := rfl
      simp only [e2_run, eCallM_run, aCons_run, eVar_run, eC_run, aNil_run, eAs_run, List.set_cons_succ, List.set_cons_zero, List.getElem?_cons_succ, List.getElem?_cons_zero, vOf_loc, vOf_int, bind_ok, ht, gNe_int, oOf_some, gi, gm]
    · split <;> omega) hb
  obtain ⟨g, rfl, hg⟩ := ints_of ys hp
  refine ⟨g, μ', ⟨by simpa using hl, hg⟩, hb', ?_⟩
  have sz : (g.map D.int).length ≤ sizeLine := szN (by rw [hl]; have := h.n2; omega)
  rw [show rows.map tI = encR rows from rfl] at e
  simp only [tI]
  generalize g.map D.int = gs at *
  generalize encR rows = rs at *
  simp [eVar_run, wipeD, e, sz]
abbrev Tp (ns : List Int) (δ : Sv) : Prop := ∃ b1 b2 b3 b4 b5 b6 b7 b8 b9 b10 b11, δ = [some (.scr (ns.map D.int)), b1, b2, b3, b4, b5, b6, b7, b8, b9, b10, b11]
theorem turns_ok {ns : List Int} {k : Int} {l w : Nat} {rows : List (List Int)} {g : List Int} {d5 d6 : D} (h : RR rows w) (hg : Cl rows.length g) (t : Told rows w g d5) (h6 : Beg rows.length d6) (items : List D) {δ : Sv} {μ : Mem} (hi : LI ns k l w rows g d5 d6 δ μ) :
    ∃ δ' μ', loopS (gNm 9) m_law_b1 items δ μ = .nx δ' μ' ∧ LI ns k l w rows g d5 d6 δ' μ' :=
  loopS_inv (I := LI ns k l w rows g d5 d6) (fun d hd δ μ ⟨v7, v8, o7, o8, o9, o10, o11, k7, k8, hb, e⟩ => by
    subst e
    obtain ⟨δ2, μ2, e2, hi⟩ := turn1_ok (ns := ns) (k := k) h hg t h6 k7 k8 (some d) o10 o11 hb
    exact ⟨slL ns k l rows g d5 d6 v7 v8 (some d) o10 o11, δ2, μ2, rfl, .inl e2, hi⟩) hi
theorem top_ok {ns : List Int} {k : Int} (h0 : 0 ≤ k) (b2 b3 b4 b5 b6 b7 b8 b9 b10 b11 : Option D) (μ : Mem) : ∃ δ2 μ2, m_law_b2 [some (.scr (ns.map D.int)), some (.int k), b2, b3, b4, b5, b6, b7, b8, b9, b10, b11] μ = .nx δ2 μ2 ∧ Tp ns δ2 := by
  obtain ⟨x, y, hbx⟩ := box_ok (ns := ns) (μ := μ) h0
  have hbx := callM_new hbx (Nat.le_refl _)
  obtain ⟨l, hl⟩ : ∃ l, l = μ.length := ⟨_, rfl⟩
  obtain ⟨μ1, hμ1⟩ : ∃ μ1 : Mem, μ1 = μ ++ [.lst [.int x, .int y, .int 0]] := ⟨_, rfl⟩
  rw [← hμ1, ← hl] at hbx
  have B1 : Bx μ1 l := ⟨x, y, 0, by rw [hμ1, hl]; simp⟩
  obtain ⟨rows, w, μ2, er, h, _, _, B2, _⟩ := rows_ok B1 (most := 5) (by omega) (by omega)
  obtain ⟨g, μ3, hg, B3, eg⟩ := goals_ok (k := k) h B2 (some (.scr (ns.map D.int))) b4 b5 b6 b7 b8 b9 b10 b11
  obtain ⟨d5, e5, t⟩ := solve_ok h hg μ3
  obtain ⟨d6, e6, h6⟩ := reasons_ok h hg μ3
  have h6' : Beg rows.length d6 := by
    rcases h6 with rfl | ⟨r, rfl, hr⟩
    · exact .non
    · exact .row r hr
  have vv5 := t.vo
  have vv6 := h6'.vo
  obtain ⟨bg, one⟩ := t.one
  obtain ⟨o7, k7⟩ := bg.kd (by have := h.w2; omega)
  obtain ⟨o8, k8⟩ := h6'.kd (by have := h.n2; omega)
  unfold m_law_b2
  rw [seq_nx (δ1 := [some (.scr (ns.map D.int)), some (.int k), some (.loc l), b3, b4, b5, b6, b7, b8, b9, b10, b11]) (μ1 := μ1) (by simp [eVar_run, hbx])]
  rw [seq_nx (δ1 := [some (.scr (ns.map D.int)), some (.int k), some (.loc l), some (.lst (encR rows)), b4, b5, b6, b7, b8, b9, b10, b11]) (μ1 := μ2) (by
    generalize encR rows = rs at *
    simp [eVar_run, er])]
  rw [seq_nx (δ1 := [some (.scr (ns.map D.int)), some (.int k), some (.loc l), some (.lst (encR rows)), some (tI g), b5, b6, b7, b8, b9, b10, b11]) (μ1 := μ3) (asg_nx eg)]
  rw [seq_nx (δ1 := [some (.scr (ns.map D.int)), some (.int k), some (.loc l), some (.lst (encR rows)), some (tI g), some d5, some d6, b7, b8, b9, b10, b11]) (μ1 := μ3) (by
    simp only [tI] at *
    generalize encR rows = rs at *
    generalize g.map D.int = gs at *
    simp [eVar_run, e5, e6])]
  rw [seq_nx (δ1 := slL ns k l rows g d5 d6 (oneOf d5) d6 b9 b10 b11) (μ1 := μ3) (by
    have one' := one μ3 [some (.scr (ns.map D.int)), some (.int k), some (.loc l), some (.lst (encR rows)), some (tI g), some d5, some d6, b7, b8, b9, b10, b11] rfl
    have ev6 : eVar 6 [some (.scr (ns.map D.int)), some (.int k), some (.loc l), some (.lst (encR rows)), some (tI g), some d5, some d6, b7, b8, b9, b10, b11] μ3 = .ok d6 μ3 := by rw [eVar_run]; exact vv6 μ3
    have tg : gTupD [oneOf d5, d6] μ3 = some (.tup [oneOf d5, d6]) := gTupD_run (by simp)
    rw [sAsg_run, eAs_run]
    simp only [aCons_run, one', bind_ok, ev6, aNil_run, tg, oOf_some, bindS_ok]
    rfl)]
  obtain ⟨δ', μ', e, v7, v8, o7', o8', o9, o10, o11, _, _, _, rfl⟩ := turns_ok h hg t h6' ((List.range 9).map fun (k : Nat) => .int (k : Int)) (δ := slL ns k l rows g d5 d6 (oneOf d5) d6 b9 b10 b11) (μ := μ3) ⟨_, _, o7, o8, _, _, _, k7, k8, B3, rfl⟩
  have r9 := range1_run (mr := aCons (eC (.int 9)) aNil) (δ := slL ns k l rows g d5 d6 (oneOf d5) d6 b9 b10 b11) (μ := μ3) (μ1 := μ3) (n := 9) rfl (by decide)
  exact ⟨_, μ', by rw [sFor_run, r9]; exact e, _, _, _, _, _, _, _, _, _, _, _, rfl⟩
theorem pure (ns : List Int) (hl : ns.length ≤ 63) (hb : ∀ z ∈ ns, Builtin.Int.intBits z ≤ 1048576) : ∃ μ, f_law [.scr (ns.map D.int)] [] = .ok (.bl true) μ := by
  obtain ⟨δ', μ', e, b1, b2, b3, b4, b5, b6, b7, b8, b9, b10, b11, rfl⟩ := loopS_inv (g := gNm 1) (b := m_law_b2) (I := fun δ _ => Tp ns δ) (items := (List.range 3).map fun (k : Nat) => .int (k : Int)) (δ := [some (.scr (ns.map D.int)), none, none, none, none, none, none, none, none, none, none, none]) (μ := []) (fun d hd δ μ ⟨b1, b2, b3, b4, b5, b6, b7, b8, b9, b10, b11, e⟩ => by
    subst e
    obtain ⟨j, hj, rfl⟩ := List.mem_map.mp hd
    obtain ⟨δ2, μ2, e2, hi⟩ := top_ok (ns := ns) (k := (j : Int)) (by omega) b2 b3 b4 b5 b6 b7 b8 b9 b10 b11 μ
    exact ⟨[some (.scr (ns.map D.int)), some (.int (j : Int)), b2, b3, b4, b5, b6, b7, b8, b9, b10, b11], δ2, μ2, rfl, .inl e2, hi⟩) ⟨_, _, _, _, _, _, _, _, _, _, _, rfl⟩
  have r3 := range1_run (mr := aCons (eC (.int 3)) aNil) (δ := [some (.scr (ns.map D.int)), none, none, none, none, none, none, none, none, none, none, none]) (μ := []) (μ1 := []) (n := 3) rfl (by decide)
  refine ⟨μ', body_ret (δ := [some (.scr (ns.map D.int)), none, none, none, none, none, none, none, none, none, none, none]) rfl ?_⟩
  unfold m_law
  rw [seq_nx (by rw [sFor_run, r3]; exact e)]
  rfl
end K04

set_option Elab.async false
set_option linter.all false
set_option maxRecDepth 100000
set_option maxHeartbeats 0
open PySem PySem.W PySem.Calls PyProof.Rows
theorem PySem.Challenge.cw_keptwhole_k04_papers_of_systems_bent_holds : PySem.Challenge.rw_keptwhole_k04_papers_of_systems_bent.Holds := by
  w_on; o_law
  refine HandSHeadRun.head_any (r := OpenLaw.row PySem.Challenge.rw_keptwhole_k04_papers_of_systems_bent) (q := view (OpenLaw.row PySem.Challenge.rw_keptwhole_k04_papers_of_systems_bent).prog [38]) (H := K04.hk) (ob := K04.ob) (M := 2000) (loose := K04.loose) (d := HandSHeadRun.topDef (OpenLaw.row PySem.Challenge.rw_keptwhole_k04_papers_of_systems_bent).prog 38) (kwd := []) K04.ob_eq
    (by kernel_rfl) (fun s => by kernel_rfl) K04.run (by kernel_rfl) (by kernel_rfl) (by kernel_rfl) (by rfl) (by first | assumption | decide +kernel) (by decide +kernel) ⟨rfl, rfl, rfl, rfl, rfl, by decide +kernel⟩ ?hw ?hc
  case hw => w_witness2
  case hc =>
    refine Kw.walk_G (l := PySem.Challenge.rw_keptwhole_k04_papers_of_systems_bent) (n := 63) (k := 7) (x := "_law_script") (m := K04.f_law) rfl (by decide) (by kernel_rfl) ⟨rfl, by decide, by decide⟩ K04.pure ?F
    intro w mg fa h Y G hmg0
    obtain ⟨K, KX, c⟩ := Y
    have hmg : mg ("law" : PySem.Str) = some (.ref fa) := by
      have e : (HandSHeadRun.topDef (OpenLaw.row PySem.Challenge.rw_keptwhole_k04_papers_of_systems_bent).prog 38).name = ("law" : PySem.Str) := by kernel_rfl
      rw [← e]
      exact hmg0
    obtain ⟨fd, hb, hF⟩ := K04.facts (P := (PySem.Challenge.rw_keptwhole_k04_papers_of_systems_bent).prog) (w := w) (T := []) KX G hmg c
    exact ⟨K, fd, [], [], KX, (fun p hp => nomatch hp), (fun p hp => nomatch hp), (fun p hp => nomatch hp), (fun p hp => nomatch hp), hb, fun base kb nb _ => hF base kb nb⟩

