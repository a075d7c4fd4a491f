import PyProof.Rows.All
import Wide.All
import OpenK.AllK
import Wide.FinOn
import PyProof.EqAt
import PyProof.EqKinds
import PyProof.TupleCall
import HandS.ForMost
import HandS.Lambda
import HandS.Wide
import HandS.WideMore
import HandS.WideBits
import HandS.Conv
import HandS.Zip
import HandS.IsInst
import HandS.TupAny
import HandS.TryMany
import HandS.ExcField
import HandS.Defaults
import HandS.HeadWalk
import HandS.HeadHook4
import HandS.Head2
import HandS.Flow
import HandS.Deep
import HandS.Rev
import HandS.Style
import HandS.Small
import HandS.ExcOwn
import HandS.TupLe
import HandS.TupMul
import HandS.NoneIn
import HandS.WordsDict
import HandS.DictComp
import HandS.SetFor
import PySem.Challenge.RW_keptwhole_k33_powers_that_show_a_prime
set_option Elab.async false
set_option linter.all false
set_option maxRecDepth 100000
/-! Kw: Python code as plain functions over data: D (data), Mem (what changes), Out (how a piece of code ends); a piece of code does what its function says: the reading tE, over HandS. -/
namespace Kw
open PySem PySem.Spec PyProof.Rows L2

/-- data: what never changes (lst, dct: a list, a dict that nothing changes any more), or the place of a thing that changes -/
inductive D where
  | non | bl (b : Bool) | int (i : Int) | str (x : Str)
  | tup (xs : List D) | lst (xs : List D)
  | dct (kvs : List (D × D))
  /-- a list, a dict that is read alone: the script, a module's list, what a caller lent -/
  | scr (xs : List D) | brd (kvs : List (D × D))
  | loc (l : Nat)
  /-- an own class, a def: by its global name; a built-in class by its name -/
  | glb (x : Str) | ty (n : String)
  /-- the def's argument that is a lambda; the exception that a suite holds -/
  | lam | exc (c : Str) (fs : List (Str × D))

/-- a thing that changes -/
inductive Ob where
  | lst (xs : List D)
  | dct (kvs : List (D × D))
  | ins (c : Str) (fs : List (Str × D))
  /-- it never changes again: laid for good -/
  | gone

/-- an exception: its class, its fields -/
structure Xn where
  cls : Str
  fs : List (Str × D)

abbrev Mem := List Ob
abbrev Sv := List (Option D)

inductive Out (α : Type) where
  | ok (a : α) (μ : Mem)
  | exc (x : Xn) (μ : Mem)
  | stuck

/-- the world: where the places lie, what is laid for good, what callers lent (it stays), what is being made (it stays) -/
structure Wd where
  n : Nat
  ρ : Nat → Addr
  φ : Hp
  fr : Hp
  gr : Hp
structure Wd.Le (w w' : Wd) : Prop where
  n : w.n ≤ w'.n
  ρ : ∀ l, l < w.n → w'.ρ l = w.ρ l
  φ : ∀ a o, w.φ a = some o → w'.φ a = some o
  fr : w'.fr = w.fr
  gr : w'.gr = w.gr
/-- .. what is being made apart -/
structure Wd.Lw (w w' : Wd) : Prop where
  n : w.n ≤ w'.n
  ρ : ∀ l, l < w.n → w'.ρ l = w.ρ l
  φ : ∀ a o, w.φ a = some o → w'.φ a = some o
  fr : w'.fr = w.fr
theorem Wd.Le.lw {w w' : Wd} (l : w.Le w') : w.Lw w' := ⟨l.n, l.ρ, l.φ, l.fr⟩
theorem Wd.Lw.trans {a b c : Wd} (x : a.Lw b) (y : b.Lw c) : a.Lw c :=
  ⟨Nat.le_trans x.n y.n, fun l h => (y.ρ l (Nat.lt_of_lt_of_le h x.n)).trans (x.ρ l h), fun p o h => y.φ p o (x.φ p o h), y.fr.trans x.fr⟩
theorem Wd.Le.refl (w : Wd) : w.Le w := ⟨Nat.le_refl _, fun _ _ => rfl, fun _ _ h => h, rfl, rfl⟩
theorem Wd.Le.trans {a b c : Wd} (x : a.Le b) (y : b.Le c) : a.Le c :=
  ⟨Nat.le_trans x.n y.n, fun l h => (y.ρ l (Nat.lt_of_lt_of_le h x.n)).trans (x.ρ l h), fun p o h => y.φ p o (x.φ p o h), y.fr.trans x.fr, y.gr.trans x.gr⟩

section
variable (K : PySem.W.Frag) (mg : Str → Option Value) (w : Wd)
mutual
inductive RelD : D → V → Prop
  | non : RelD .non .non
  | bl (b : Bool) : RelD (.bl b) (.bl b)
  | int (i : Int) : RelD (.int i) (.int i)
  | str (x : Str) : RelD (.str x) (.str x)
  | tup {a : Addr} {vs : List V} {ds : List D} : SqT K w.φ a vs → RelDs ds vs → RelD (.tup ds) (.ref a)
  | lst {a : Addr} {vs : List V} {ds : List D} : w.φ a = some (.lst vs) → RelDs ds vs → RelD (.lst ds) (.ref a)
  | scr {a : Addr} {vs : List V} {ds : List D} : (SqL K w.φ a vs ∨ w.fr a = some (.lst vs)) → RelDs ds vs → RelD (.scr ds) (.ref a)
  | brd {a : Addr} {kvs : List (Key × V)} {ks ds : List D} : Rd w.fr a (.dK kvs) → ks = kvs.map (fun p => match p.1 with | .inl i => D.int i | .inr x => D.str x) → RelDs ds (kvs.map (·.2)) → RelD (.brd (ks.zip ds)) (.ref a)
  | dctK {a : Addr} {kvs : List (Key × V)} {ks ds : List D} : Rd w.φ a (.dK kvs) → ks = kvs.map (fun p => match p.1 with | .inl i => D.int i | .inr x => D.str x) → RelDs ds (kvs.map (·.2)) → RelD (.dct (ks.zip ds)) (.ref a)
  | loc {l : Nat} : l < w.n → RelD (.loc l) (.ref (w.ρ l))
  | glb {x : Str} {a : Addr} : mg x = some (.ref a) → RelD (.glb x) (.ref a)
  | ty (n : String) : RelD (.ty n) (.ty n)
inductive RelDs : List D → List V → Prop
  | nil : RelDs [] []
  | cons {d : D} {ds : List D} {v : V} {vs : List V} : RelD d v → RelDs ds vs → RelDs (d :: ds) (v :: vs)
end
end

section
variable {K : PySem.W.Frag} {mg : Str → Option Value} {w w' : Wd}
theorem rd_mono {H H' : Hp} (e : ∀ a o, H a = some o → H' a = some o) {a : Addr} {o : HO} (h : Rd H a o) : Rd H' a o := h.elim (fun h => .inl (e _ _ h)) fun ⟨o', h⟩ => .inr ⟨o', e _ _ h⟩
theorem sqL_mono {H H' : Hp} (e : ∀ a o, H a = some o → H' a = some o) {a : Addr} {xs : List V} (h : SqL K H a xs) : SqL K H' a xs := h.elim (fun h => .inl (rd_mono e h)) .inr
theorem sqT_mono {H H' : Hp} (e : ∀ a o, H a = some o → H' a = some o) {a : Addr} {xs : List V} (h : SqT K H a xs) : SqT K H' a xs := h.elim (fun h => .inl (rd_mono e h)) .inr
theorem RelDs.length {ds : List D} {vs : List V} (h : RelDs K mg w ds vs) : ds.length = vs.length := by
  induction ds generalizing vs with
  | nil => cases h; rfl
  | cons d ds ih => cases h with | cons h1 h2 => simp [ih h2]
mutual
theorem RelD.monoW (le : w.Lw w') : ∀ {d : D} {v : V}, RelD K mg w d v → RelD K mg w' d v
  | _, _, .non => .non
  | _, _, .bl b => .bl b
  | _, _, .int i => .int i
  | _, _, .str x => .str x
  | _, _, .tup h r => .tup (sqT_mono le.φ h) (RelDs.monoW le r)
  | _, _, .lst h r => .lst (le.φ _ _ h) (RelDs.monoW le r)
  | _, _, .scr h r => .scr (h.elim (fun h => .inl (sqL_mono le.φ h)) fun h => .inr (by rw [le.fr]; exact h)) (RelDs.monoW le r)
  | _, _, .brd h e r => .brd (by rw [le.fr]; exact h) e (RelDs.monoW le r)
  | _, _, .dctK h e r => .dctK (rd_mono le.φ h) e (RelDs.monoW le r)
  | _, _, .loc (l := l) h => le.ρ l h ▸ .loc (Nat.lt_of_lt_of_le h le.n)
  | _, _, .glb h => .glb h
  | _, _, .ty n => .ty n
theorem RelDs.monoW (le : w.Lw w') : ∀ {ds : List D} {vs : List V}, RelDs K mg w ds vs → RelDs K mg w' ds vs
  | _, _, .nil => .nil
  | _, _, .cons h t => .cons (RelD.monoW le h) (RelDs.monoW le t)
end
theorem RelD.mono (le : w.Le w') {d : D} {v : V} (h : RelD K mg w d v) : RelD K mg w' d v := RelD.monoW le.lw h
theorem RelDs.mono (le : w.Le w') {ds : List D} {vs : List V} (h : RelDs K mg w ds vs) : RelDs K mg w' ds vs := RelDs.monoW le.lw h
end
end Kw

set_option Elab.async false
set_option linter.all false
set_option maxRecDepth 100000
namespace Kw
open PySem PySem.Spec PyProof.Rows L2

/-! ### things that change, the memory, exceptions, slots -/
def keyD : Key → D
  | .inl i => .int i
  | .inr x => .str x
def RelFs (K : PySem.W.Frag) (mg : Str → Option Value) (w : Wd) (fs : List (Str × D)) (gs : List (Str × V)) : Prop := fs.map (·.1) = gs.map (·.1) ∧ RelDs K mg w (fs.map (·.2)) (gs.map (·.2))
inductive RelOb (K : PySem.W.Frag) (mg : Str → Option Value) (w : Wd) : Ob → Option HO → Prop
  | lst {xs : List D} {vs : List V} : RelDs K mg w xs vs → RelOb K mg w (.lst xs) (some (.lst vs))
  | dct {kvs : List (D × D)} {gs : List (Key × V)} : kvs.map (·.1) = gs.map (fun p => keyD p.1) → RelDs K mg w (kvs.map (·.2)) (gs.map (·.2)) → RelOb K mg w (.dct kvs) (some (.dK gs))
  | ins {c : Str} {fs : List (Str × D)} {C dx : Addr} {gs : List (Str × V)} : mg c = some (.ref C) → RelFs K mg w fs gs → RelOb K mg w (.ins c fs) (some (.ins C dx gs))
  | gone {o : HO} : RelOb K mg w .gone (some o)

structure RelM (K : PySem.W.Frag) (mg : Str → Option Value) (T : List (Addr × Str)) (w : Wd) (μ : Mem) (H : Hp) : Prop where
  n : w.n = μ.length
  φ : ∀ a o, w.φ a = some o → H a = some o
  fr : ∀ a o, w.fr a = some o → H a = some o
  gr : ∀ a o, w.gr a = some o → H a = some o
  dj : ∀ a o, w.fr a = some o → w.φ a = none
  dg : ∀ a o, w.gr a = some o → w.φ a = none ∧ w.fr a = none
  ob : ∀ l b, μ[l]? = some b → RelOb K mg w b (H (w.ρ l)) ∧ (b ≠ .gone → w.φ (w.ρ l) = none ∧ w.fr (w.ρ l) = none ∧ w.gr (w.ρ l) = none)
  gn : ∀ l, μ[l]? = some .gone → ∃ o, w.φ (w.ρ l) = some o
  inj : ∀ l l', l < w.n → l' < w.n → w.ρ l = w.ρ l' → l = l'
  tabs : LamX.Tabs T H
  nt : ∀ a ps, w.φ a ≠ some (.tbl ps)

def RelX (K : PySem.W.Frag) (mg : Str → Option Value) (w : Wd) (x : Xn) (cls : Value) (d : Option Addr) : Prop :=
  ∃ C dd gs, mg x.cls = some (.ref C) ∧ cls = .ref C ∧ d = some dd ∧ w.φ dd = some (.xd gs) ∧ RelFs K mg w x.fs gs

/-- what a body has beside its data: the lambda that it was given; the exception that a suite holds -/
structure SI where
  T : List (Addr × Str)
  lam : V := .non
  exa : Addr := 0
  ecls : Value := .none
  edd : Option Addr := none

def RelS (K : PySem.W.Frag) (mg : Str → Option Value) (S : SI) (w : Wd) : D → V → Prop
  | .lam, v => v = S.lam
  | .exc c fs, v => v = .ref S.exa ∧ RelX K mg w ⟨c, fs⟩ S.ecls S.edd
  | d, v => RelD K mg w d v
def RelSv (K : PySem.W.Frag) (mg : Str → Option Value) (S : SI) (w : Wd) (δ : Sv) (σ : L2.St) : Prop :=
  δ.length = σ.length ∧ ∀ (i : Nat) (d : D), δ[i]? = some (some d) → ∃ v, σ[i]? = some (some v) ∧ RelS K mg S w d v

section
variable {K : PySem.W.Frag} {mg : Str → Option Value} {w w' : Wd} {T : List (Addr × Str)} {S : SI} {μ : Mem} {H : Hp}
theorem RelFs.monoW (le : w.Lw w') {fs gs} (h : RelFs K mg w fs gs) : RelFs K mg w' fs gs := ⟨h.1, RelDs.monoW le h.2⟩
theorem RelOb.monoW (le : w.Lw w') {b : Ob} {o : Option HO} (h : RelOb K mg w b o) : RelOb K mg w' b o := by
  cases h with
  | lst r => exact .lst (RelDs.monoW le r)
  | dct e r => exact .dct e (RelDs.monoW le r)
  | ins e r => exact .ins e (r.monoW le)
  | gone => exact .gone
theorem RelX.monoW (le : w.Lw w') {x : Xn} {c : Value} {d : Option Addr} (h : RelX K mg w x c d) : RelX K mg w' x c d := by
  obtain ⟨C, dd, gs, a, b, c, d, e⟩ := h
  exact ⟨C, dd, gs, a, b, c, le.φ _ _ d, e.monoW le⟩
theorem RelS.monoW (le : w.Lw w') : ∀ {d : D} {v : V}, RelS K mg S w d v → RelS K mg S w' d v
  | .lam, _, h => h
  | .exc _ _, _, h => ⟨h.1, h.2.monoW le⟩
  | .non, _, h => RelD.monoW (d := .non) le h
  | .bl _, _, h => RelD.monoW (d := .bl _) le h
  | .int _, _, h => RelD.monoW (d := .int _) le h
  | .str _, _, h => RelD.monoW (d := .str _) le h
  | .tup _, _, h => RelD.monoW (d := .tup _) le h
  | .lst _, _, h => RelD.monoW (d := .lst _) le h
  | .scr _, _, h => RelD.monoW (d := .scr _) le h
  | .brd _, _, h => RelD.monoW (d := .brd _) le h
  | .dct _, _, h => RelD.monoW (d := .dct _) le h
  | .loc _, _, h => RelD.monoW (d := .loc _) le h
  | .glb _, _, h => RelD.monoW (d := .glb _) le h
  | .ty _, _, h => RelD.monoW (d := .ty _) le h
theorem RelFs.mono (le : w.Le w') {fs gs} (h : RelFs K mg w fs gs) : RelFs K mg w' fs gs := h.monoW le.lw
theorem RelOb.mono (le : w.Le w') {b : Ob} {o : Option HO} (h : RelOb K mg w b o) : RelOb K mg w' b o := h.monoW le.lw
theorem RelX.mono (le : w.Le w') {x : Xn} {c : Value} {d : Option Addr} (h : RelX K mg w x c d) : RelX K mg w' x c d := h.monoW le.lw
theorem RelS.mono (le : w.Le w') {d : D} {v : V} (h : RelS K mg S w d v) : RelS K mg S w' d v := h.monoW le.lw
theorem RelS.of : ∀ {d : D} {v : V}, RelD K mg w d v → RelS K mg S w d v
  | .non, _, h => h
  | .bl _, _, h => h
  | .int _, _, h => h
  | .str _, _, h => h
  | .tup _, _, h => h
  | .lst _, _, h => h
  | .scr _, _, h => h
  | .brd _, _, h => h
  | .dct _, _, h => h
  | .loc _, _, h => h
  | .glb _, _, h => h
  | .ty _, _, h => h
  | .lam, _, h => nomatch h
  | .exc _ _, _, h => nomatch h
theorem RelSv.monoW (le : w.Lw w') {δ : Sv} {σ : L2.St} (h : RelSv K mg S w δ σ) : RelSv K mg S w' δ σ :=
  ⟨h.1, fun i d e => let ⟨v, a, b⟩ := h.2 i d e; ⟨v, a, b.monoW le⟩⟩
theorem RelSv.mono (le : w.Le w') {δ : Sv} {σ : L2.St} (h : RelSv K mg S w δ σ) : RelSv K mg S w' δ σ := h.monoW le.lw
theorem RelSv.set {δ : Sv} {σ : L2.St} (h : RelSv K mg S w δ σ) (i : Nat) {d : D} {v : V} (r : RelD K mg w d v) : RelSv K mg S w (δ.set i (some d)) (σ.set i (some v)) := by
  refine ⟨by simp [h.1], fun j e he => ?_⟩
  by_cases hj : i = j
  · subst hj
    by_cases hl : i < δ.length
    · rw [List.getElem?_set_self hl] at he
      cases he
      exact ⟨v, List.getElem?_set_self (by rw [← h.1]; exact hl), .of r⟩
    · rw [List.getElem?_eq_none (by simpa using hl)] at he
      cases he
  · rw [List.getElem?_set_ne hj] at he
    rw [List.getElem?_set_ne hj]
    exact h.2 j e he

/-! ### laying, changing -/
/-- the world where o is laid at p for good -/
def Wd.lay (w : Wd) (p : Addr) (o : HO) : Wd := { w with φ := upd w.φ p o }
/-- .. where a new place lies at p -/
def Wd.put (w : Wd) (p : Addr) : Wd := { w with n := w.n + 1, ρ := fun l => if l = w.n then p else w.ρ l }

theorem RelM.free (r : RelM K mg T w μ H) {p : Addr} (hp : H p = none) : w.φ p = none ∧ w.fr p = none ∧ w.gr p = none ∧ ∀ l, l < w.n → w.ρ l ≠ p := by
  refine ⟨?_, ?_, ?_, fun l hl e => ?_⟩
  · cases q : w.φ p with
    | none => rfl
    | some o => rw [r.φ p o q] at hp; cases hp
  · cases q : w.fr p with
    | none => rfl
    | some o => rw [r.fr p o q] at hp; cases hp
  · cases q : w.gr p with
    | none => rfl
    | some o => rw [r.gr p o q] at hp; cases hp
  · have hl' : l < μ.length := r.n ▸ hl
    have q := (r.ob l μ[l] (List.getElem?_eq_getElem hl')).1
    rw [e, hp] at q
    generalize μ[l] = b at q
    cases q
theorem RelM.lay_le (r : RelM K mg T w μ H) {p : Addr} (hp : H p = none) (o : HO) : w.Le (w.lay p o) :=
  ⟨Nat.le_refl _, fun _ _ => rfl, fun a u h => by
    have : a ≠ p := fun e => by rw [e, (r.free hp).1] at h; cases h
    show upd w.φ p o a = _
    rw [upd_ne this]; exact h, rfl, rfl⟩
theorem tabs_upd {p : Addr} {o : HO} (h : LamX.Tabs T H) (hp : H p = none) : LamX.Tabs T (upd H p o) := h.ext fun b u e => by
  have : b ≠ p := ne_of_none e hp
  rw [upd_ne this]; exact e
theorem RelM.lay (r : RelM K mg T w μ H) {p : Addr} (hp : H p = none) {o : HO} (ho : ∀ ps, o ≠ .tbl ps) : RelM K mg T (w.lay p o) μ (upd H p o) := by
  obtain ⟨f1, f2, fg, f3⟩ := r.free hp
  have le := r.lay_le hp o
  have old : ∀ {a u}, H a = some u → upd H p o a = some u := fun {a u} e => by rw [upd_ne (ne_of_none e hp)]; exact e
  refine ⟨r.n, fun a u h => ?_, fun a u h => old (r.fr a u h), fun a u h => old (r.gr a u h), fun a u h => ?_, fun a u h => ?_, fun l b hb => ?_, fun l hl => (r.gn l hl).imp fun u hu => le.φ _ _ hu, r.inj, tabs_upd r.tabs hp, fun a ps => ?_⟩
  · by_cases e : a = p
    · subst e
      have h' : upd w.φ a o a = some u := h
      rw [upd_same] at h' ⊢; exact h'
    · have h' : upd w.φ p o a = some u := h
      rw [upd_ne e] at h'
      exact old (r.φ a u h')
  · have h' : w.fr a = some u := h
    have : a ≠ p := fun e => by rw [e, f2] at h'; cases h'
    show upd w.φ p o a = none
    rw [upd_ne this]; exact r.dj a u h
  · have h' : w.gr a = some u := h
    have : a ≠ p := fun e => by rw [e, fg] at h'; cases h'
    refine ⟨?_, (r.dg a u h).2⟩
    show upd w.φ p o a = none
    rw [upd_ne this]; exact (r.dg a u h).1
  · obtain ⟨h1, h2⟩ := r.ob l b hb
    have hl : l < w.n := by rw [r.n]; exact (List.getElem?_eq_some_iff.mp hb).1
    have ne : w.ρ l ≠ p := f3 l hl
    refine ⟨?_, fun ng => ⟨?_, (h2 ng).2⟩⟩
    · show RelOb K mg (w.lay p o) b (upd H p o (w.ρ l))
      rw [upd_ne ne]; exact h1.mono le
    · show upd w.φ p o (w.ρ l) = none
      rw [upd_ne ne]; exact (h2 ng).1
  · show upd w.φ p o a ≠ _
    by_cases e : a = p
    · subst e; rw [upd_same]; exact fun z => ho ps (Option.some.inj z)
    · rw [upd_ne e]; exact r.nt a ps
theorem Wd.lay_at {p : Addr} {o : HO} : (w.lay p o).φ p = some o := upd_same
theorem Wd.put_le (w : Wd) (p : Addr) : w.Le (w.put p) := ⟨Nat.le_succ _, fun l h => if_neg (Nat.ne_of_lt h), fun _ _ h => h, rfl, rfl⟩
theorem Wd.put_at {w : Wd} {p : Addr} : (w.put p).ρ w.n = p := if_pos rfl
theorem RelM.put (r : RelM K mg T w μ H) {p : Addr} (hp : H p = none) {o : HO} {b : Ob} (hb : RelOb K mg w b (some o)) (ng : b ≠ .gone := by nofun) : RelM K mg T (w.put p) (μ ++ [b]) (upd H p o) := by
  obtain ⟨f1, f2, fg, f3⟩ := r.free hp
  have le := w.put_le p
  have old : ∀ {a u}, H a = some u → upd H p o a = some u := fun {a u} e => by rw [upd_ne (ne_of_none e hp)]; exact e
  refine ⟨?_, fun a u h => old (r.φ a u h), fun a u h => old (r.fr a u h), fun a u h => old (r.gr a u h), r.dj, r.dg, fun l c hc => ?_, fun l hl => ?_, fun l l' h h' e => ?_, tabs_upd r.tabs hp, r.nt⟩
  · show w.n + 1 = _
    simp [r.n]
  · by_cases e : l = w.n
    · subst e
      rw [r.n, List.getElem?_append_right (Nat.le_refl _)] at hc
      simp at hc
      subst hc
      rw [show (w.put p).ρ w.n = p from if_pos rfl]
      rw [upd_same]
      exact ⟨hb.mono le, fun _ => ⟨f1, f2, fg⟩⟩
    · have hl : l < μ.length := by
        have := (List.getElem?_eq_some_iff.mp hc).1
        simp at this
        have := r.n
        omega
      rw [List.getElem?_append_left hl] at hc
      obtain ⟨h1, h2⟩ := r.ob l c hc
      have hn : l < w.n := by rw [r.n]; exact hl
      rw [show (w.put p).ρ l = w.ρ l from if_neg e]
      rw [upd_ne (f3 l hn)]
      exact ⟨h1.mono le, h2⟩
  · by_cases e : l < μ.length
    · rw [List.getElem?_append_left e] at hl
      obtain ⟨u, hu⟩ := r.gn l hl
      refine ⟨u, ?_⟩
      show w.φ ((w.put p).ρ l) = some u
      rw [show (w.put p).ρ l = w.ρ l from if_neg (by have := r.n; omega)]
      exact hu
    · rw [List.getElem?_append_right (by omega)] at hl
      cases k : l - μ.length with
      | zero => rw [k] at hl; cases hl; exact absurd rfl ng
      | succ n => rw [k] at hl; cases hl
  · have h1 : l < w.n + 1 := h
    have h2 : l' < w.n + 1 := h'
    by_cases e1 : l = w.n
    · by_cases e2 : l' = w.n
      · rw [e1, e2]
      · rw [show (w.put p).ρ l = p from if_pos e1, show (w.put p).ρ l' = w.ρ l' from if_neg e2] at e
        exact absurd e.symm (f3 l' (by omega))
    · by_cases e2 : l' = w.n
      · rw [show (w.put p).ρ l = w.ρ l from if_neg e1, show (w.put p).ρ l' = p from if_pos e2] at e
        exact absurd e (f3 l (by omega))
      · rw [show (w.put p).ρ l = w.ρ l from if_neg e1, show (w.put p).ρ l' = w.ρ l' from if_neg e2] at e
        exact r.inj l l' (by omega) (by omega) e
/-- the object of a changing thing -/
def chg : HO → Bool
  | .lst _ => true
  | .dK _ => true
  | .dT _ => true
  | .ins _ _ _ => true
  | _ => false
theorem RelOb.chg {b : Ob} {o : HO} (ng : b ≠ .gone) (h : RelOb K mg w b (some o)) : chg o = true := by
  cases h with
  | gone => exact absurd rfl ng
  | _ => rfl
theorem tabs_chg {p : Addr} {o o' : HO} (h : LamX.Tabs T H) (hp : H p = some o) (hc : chg o = true) : LamX.Tabs T (upd H p o') := fun q hq => by
  obtain ⟨ps, h1, h2, h3⟩ := h q hq
  have ne : ∀ {a u}, H a = some u → chg u = false → a ≠ p := fun {a u} e z x => by
    rw [x, hp] at e; cases e; rw [hc] at z; cases z
  refine ⟨ps, by rw [upd_ne (ne h1 rfl)]; exact h1, h2, fun pos cv hcv => ?_⟩
  obtain ⟨c, e1, e2⟩ := h3 pos cv hcv
  exact ⟨c, e1, by rw [upd_ne (ne e2 rfl)]; exact e2⟩
theorem RelM.write (r : RelM K mg T w μ H) {l : Nat} {b b' : Ob} {o' : HO} (hl : μ[l]? = some b) (ng : b ≠ .gone) (hb : RelOb K mg w b' (some o')) (ng' : b' ≠ .gone := by nofun) : RelM K mg T w (μ.set l b') (upd H (w.ρ l) o') := by
  obtain ⟨h1, hng⟩ := r.ob l b hl
  obtain ⟨h2, h3, h4⟩ := hng ng
  have hlt : l < μ.length := (List.getElem?_eq_some_iff.mp hl).1
  obtain ⟨o, ho⟩ : ∃ o, H (w.ρ l) = some o := by
    cases e : H (w.ρ l) with
    | none => rw [e] at h1; cases h1
    | some o => exact ⟨o, rfl⟩
  have hc : chg o = true := by rw [ho] at h1; exact h1.chg ng
  refine ⟨by simp [r.n], fun a u h => ?_, fun a u h => ?_, fun a u h => ?_, r.dj, r.dg, fun l' c hc' => ?_, fun l' hl' => ?_, r.inj, tabs_chg r.tabs ho hc, r.nt⟩
  · rw [upd_ne (fun e => by rw [e, h2] at h; cases h)]; exact r.φ a u h
  · rw [upd_ne (fun e => by rw [e, h3] at h; cases h)]; exact r.fr a u h
  · rw [upd_ne (fun e => by rw [e, h4] at h; cases h)]; exact r.gr a u h
  · by_cases e : l = l'
    · subst e
      rw [List.getElem?_set_self hlt] at hc'
      cases hc'
      rw [upd_same]
      exact ⟨hb, fun _ => ⟨h2, h3, h4⟩⟩
    · rw [List.getElem?_set_ne e] at hc'
      have hlt' : l' < μ.length := (List.getElem?_eq_some_iff.mp hc').1
      have ne : w.ρ l' ≠ w.ρ l := fun z => e (r.inj l l' (by rw [r.n]; exact hlt) (by rw [r.n]; exact hlt') z.symm)
      rw [upd_ne ne]
      exact r.ob l' c hc'
  · by_cases e : l = l'
    · subst e
      rw [List.getElem?_set_self hlt] at hl'
      exact absurd (Option.some.inj hl') ng'
    · rw [List.getElem?_set_ne e] at hl'
      exact r.gn l' hl'
end

section
variable {K : PySem.W.Frag} {mg : Str → Option Value} {w w' : Wd} {T : List (Addr × Str)} {μ : Mem} {H : Hp}
/-- what is being made, at p -/
def Wd.grow (w : Wd) (p : Addr) (o : HO) : Wd := { w with gr := upd w.gr p o }
theorem Wd.grow_lw (w : Wd) (p : Addr) (o : HO) : w.Lw (w.grow p o) := ⟨Nat.le_refl _, fun _ _ => rfl, fun _ _ h => h, rfl⟩
theorem Wd.grow_wl (w : Wd) (p : Addr) (o : HO) : (w.grow p o).Lw w := ⟨Nat.le_refl _, fun _ _ => rfl, fun _ _ h => h, rfl⟩
theorem RelM.grow (r : RelM K mg T w μ H) {p : Addr} (hp : H p = none) (o : HO) : RelM K mg T (w.grow p o) μ (upd H p o) := by
  obtain ⟨f1, f2, fg, f3⟩ := r.free hp
  have old : ∀ {a u}, H a = some u → upd H p o a = some u := fun {a u} e => by rw [upd_ne (ne_of_none e hp)]; exact e
  refine ⟨r.n, fun a u h => old (r.φ a u h), fun a u h => old (r.fr a u h), fun a u h => ?_, r.dj, fun a u h => ?_, fun l b hb => ?_, r.gn, r.inj, tabs_upd r.tabs hp, r.nt⟩
  · have h' : upd w.gr p o a = some u := h
    by_cases e : a = p
    · subst e
      rw [upd_same] at h' ⊢; exact h'
    · rw [upd_ne e] at h'
      exact old (r.gr a u h')
  · have h' : upd w.gr p o a = some u := h
    by_cases e : a = p
    · subst e
      exact ⟨f1, f2⟩
    · rw [upd_ne e] at h'
      exact r.dg a u h'
  · obtain ⟨h1, h2⟩ := r.ob l b hb
    have hl : l < w.n := by rw [r.n]; exact (List.getElem?_eq_some_iff.mp hb).1
    have ne : w.ρ l ≠ p := f3 l hl
    refine ⟨?_, fun ng => ⟨(h2 ng).1, (h2 ng).2.1, ?_⟩⟩
    · show RelOb K mg (w.grow p o) b (upd H p o (w.ρ l))
      rw [upd_ne ne]; exact h1.monoW (w.grow_lw p o)
    · show upd w.gr p o (w.ρ l) = none
      rw [upd_ne ne]; exact (h2 ng).2.2
theorem RelM.regrow (r : RelM K mg T w μ H) {p : Addr} {o : HO} (hp : w.gr p = some o) (hc : chg o = true) (o' : HO) : RelM K mg T (w.grow p o') μ (upd H p o') := by
  have hH := r.gr p o hp
  obtain ⟨f1, f2⟩ := r.dg p o hp
  have np : ∀ {a u}, w.φ a = some u → a ≠ p := fun {a u} e z => by rw [z, f1] at e; cases e
  have nf : ∀ {a u}, w.fr a = some u → a ≠ p := fun {a u} e z => by rw [z, f2] at e; cases e
  have nl : ∀ l b, μ[l]? = some b → w.ρ l ≠ p ∨ b = .gone := fun l b hb => by
    by_cases ng : b = .gone
    · exact .inr ng
    · left
      intro z
      have := ((r.ob l b hb).2 ng).2.2
      rw [z, hp] at this
      cases this
  refine ⟨r.n, fun a u h => by rw [upd_ne (np h)]; exact r.φ a u h, fun a u h => by rw [upd_ne (nf h)]; exact r.fr a u h, fun a u h => ?_, r.dj, fun a u h => ?_, fun l b hb => ?_, r.gn, r.inj, tabs_chg r.tabs hH hc, r.nt⟩
  · have h' : upd w.gr p o' a = some u := h
    by_cases e : a = p
    · subst e
      rw [upd_same] at h' ⊢; exact h'
    · rw [upd_ne e] at h' ⊢
      exact r.gr a u h'
  · have h' : upd w.gr p o' a = some u := h
    by_cases e : a = p
    · subst e
      exact ⟨f1, f2⟩
    · rw [upd_ne e] at h'
      exact r.dg a u h'
  · obtain ⟨h1, h2⟩ := r.ob l b hb
    rcases nl l b hb with ne | rfl
    · refine ⟨?_, fun ng => ⟨(h2 ng).1, (h2 ng).2.1, ?_⟩⟩
      · show RelOb K mg (w.grow p o') b (upd H p o' (w.ρ l))
        rw [upd_ne ne]; exact h1.monoW (w.grow_lw p o')
      · show upd w.gr p o' (w.ρ l) = none
        rw [upd_ne ne]; exact (h2 ng).2.2
    · refine ⟨?_, fun ng => absurd rfl ng⟩
      show RelOb K mg (w.grow p o') .gone (upd H p o' (w.ρ l))
      by_cases z : w.ρ l = p
      · rw [z, upd_same]; exact .gone
      · rw [upd_ne z]; exact h1.monoW (w.grow_lw p o')
/-- it is made: laid for good -/
def Wd.done (w : Wd) (p : Addr) (o : HO) (g : Hp) : Wd := { w with φ := upd w.φ p o, gr := g }
theorem RelM.done (r : RelM K mg T w μ H) {p : Addr} {o : HO} {g : Hp} (hp : w.gr p = some o) (hg : ∀ a, a ≠ p → g a = w.gr a) (gp : g p = none) (ho : ∀ ps, o ≠ .tbl ps) : RelM K mg T (w.done p o g) μ H := by
  have hH := r.gr p o hp
  obtain ⟨f1, f2⟩ := r.dg p o hp
  have lw : w.Lw (w.done p o g) := ⟨Nat.le_refl _, fun _ _ => rfl, fun a u h => by
    have : a ≠ p := fun e => by rw [e, f1] at h; cases h
    show upd w.φ p o a = _
    rw [upd_ne this]; exact h, rfl⟩
  have gg : ∀ {a u}, g a = some u → a ≠ p ∧ w.gr a = some u := fun {a u} h => by
    have : a ≠ p := fun e => by rw [e, gp] at h; cases h
    exact ⟨this, by rw [← hg a this]; exact h⟩
  refine ⟨r.n, fun a u h => ?_, r.fr, fun a u h => r.gr a u (gg h).2, fun a u h => ?_, fun a u h => ?_, fun l b hb => ?_, fun l hl => (r.gn l hl).imp fun u hu => lw.φ _ _ hu, r.inj, r.tabs, fun a ps => ?_⟩
  · have h' : upd w.φ p o a = some u := h
    by_cases e : a = p
    · subst e; rw [upd_same] at h'; cases h'; exact hH
    · rw [upd_ne e] at h'; exact r.φ a u h'
  · have h' : w.fr a = some u := h
    have : a ≠ p := fun e => by rw [e, f2] at h'; cases h'
    show upd w.φ p o a = none
    rw [upd_ne this]; exact r.dj a u h
  · obtain ⟨h1, h2⟩ := gg h
    refine ⟨?_, (r.dg a u h2).2⟩
    show upd w.φ p o a = none
    rw [upd_ne h1]; exact (r.dg a u h2).1
  · obtain ⟨h1, h2⟩ := r.ob l b hb
    refine ⟨h1.monoW lw, fun ng => ?_⟩
    obtain ⟨k1, k2, k3⟩ := h2 ng
    have ne : w.ρ l ≠ p := fun z => by rw [z, hp] at k3; cases k3
    refine ⟨?_, k2, ?_⟩
    · show upd w.φ p o (w.ρ l) = none
      rw [upd_ne ne]; exact k1
    · show g (w.ρ l) = none
      rw [hg _ ne]; exact k3
  · show upd w.φ p o a ≠ _
    by_cases e : a = p
    · subst e; rw [upd_same]; exact fun z => ho ps (Option.some.inj z)
    · rw [upd_ne e]; exact r.nt a ps
end

/-! ### how a piece of code ends -/
def Out.to {α : Type} (o : Out α) (Q : α → Mem → Prop) (E : Xn → Mem → Prop) : Prop := match o with
  | .ok a μ => Q a μ
  | .exc x μ => E x μ
  | .stuck => False
def Out.bind {α β : Type} (o : Out α) (f : α → Mem → Out β) : Out β := match o with
  | .ok a μ => f a μ
  | .exc x μ => .exc x μ
  | .stuck => .stuck
theorem Out.to_bind {α β : Type} {o : Out α} {f : α → Mem → Out β} {Q E} (h : (o.bind f).to Q E) : o.to (fun a μ => (f a μ).to Q E) E := by
  cases o <;> exact h
theorem Out.to_mono {α : Type} {o : Out α} {Q Q' E E'} (h : o.to Q E) (hQ : ∀ a μ, Q a μ → Q' a μ) (hE : ∀ a μ, E a μ → E' a μ) : o.to Q' E' := by
  cases o with
  | ok a μ => exact hQ _ _ h
  | exc x μ => exact hE _ _ h
  | stuck => exact h

abbrev EM := Sv → Mem → Out D
abbrev TM := Sv → Mem → Out Bool
abbrev AM := Sv → Mem → Out (List D)

section
variable (K : PySem.W.Frag) (mg : Str → Option Value) (S : SI) (W : WX)
/-- the state of the world ahead of what is left to be done -/
def At {α β : Type} (R : Wd → α → β → Prop) (σ : L2.St) (Q : β → Hp → Prop) (w : Wd) (δ : Sv) (μ : Mem) (H : Hp) (o : Out α) : Prop :=
  RelSv K mg S w δ σ ∧ RelM K mg S.T w μ H ∧
    o.to (fun d μ' => ∀ w' v H', w.Le w' → RelM K mg S.T w' μ' H' → R w' d v → Q v H') (fun x μ' => ∀ w' cls dd H', w.Le w' → RelM K mg S.T w' μ' H' → RelX K mg w' x cls dd → W cls dd σ H')
/-- the reading of a piece of code that does what m says -/
def tM {α β : Type} (R : Wd → α → β → Prop) (m : Sv → Mem → Out α) : L2.St → Hp → (β → Hp → Prop) → Prop := fun σ H Q => ∃ w δ μ, At K mg S W R σ Q w δ μ H (m δ μ)
abbrev tE (m : EM) : TE := tM K mg S W (RelD K mg) m
abbrev tT (m : TM) : TT := tM K mg S W (fun _ (a b : Bool) => a = b) m
abbrev tA (m : AM) : TA := tM K mg S W (RelDs K mg) m
end
section
variable {K : PySem.W.Frag} {mg : Str → Option Value} {S : SI} {W : WX} {α β γ ε : Type} {R : Wd → α → β → Prop} {R' : Wd → γ → ε → Prop} {σ : L2.St} {w : Wd} {δ : Sv} {μ : Mem} {H : Hp}
/-- one piece, then the rest -/
theorem At.bind {o : Out α} {f : α → Mem → Out γ} {Q : ε → Hp → Prop} (h : At K mg S W R' σ Q w δ μ H (o.bind f)) :
    At K mg S W R σ (fun v H1 => ∃ w1 μ1 d, w.Le w1 ∧ R w1 d v ∧ At K mg S W R' σ Q w1 δ μ1 H1 (f d μ1)) w δ μ H o := by
  obtain ⟨h1, h2, h3⟩ := h
  refine ⟨h1, h2, ?_⟩
  cases o with
  | stuck => exact h3
  | exc x μ' => exact h3
  | ok a μ' =>
    intro w' v H' le rm rd
    refine ⟨w', μ', a, le, rd, h1.mono le, rm, ?_⟩
    exact Out.to_mono (show (f a μ').to _ _ from h3) (fun d μ2 q w2 v2 H2 le2 => q w2 v2 H2 (le.trans le2)) (fun x μ2 q w2 c d H2 le2 => q w2 c d H2 (le.trans le2))
theorem At.mono {o : Out α} {Q Q' : β → Hp → Prop} (h : At K mg S W R σ Q w δ μ H o) (hQ : ∀ v H', Q v H' → Q' v H') : At K mg S W R σ Q' w δ μ H o :=
  ⟨h.1, h.2.1, Out.to_mono h.2.2 (fun _ _ q w' v H' a b c => hQ _ _ (q w' v H' a b c)) fun _ _ q => q⟩
theorem At.tM {m : Sv → Mem → Out α} {Q : β → Hp → Prop} (h : At K mg S W R σ Q w δ μ H (m δ μ)) : tM K mg S W R m σ H Q := ⟨w, δ, μ, h⟩
/-- a piece that ends at once, the memory as it is -/
theorem At.pure {d : α} {Q : β → Hp → Prop} (h : At K mg S W R σ Q w δ μ H (.ok d μ)) {v : β} (r : R w d v) : Q v H := h.2.2 w v H (Wd.Le.refl _) h.2.1 r
end
end Kw

set_option Elab.async false
set_option linter.all false
set_option maxRecDepth 100000
namespace Kw
open PySem PySem.Spec PyProof.Rows L2

/-! ### readings, weakened -/
section
variable {X : Cx}
theorem PEi {e : Expr} {t t' : TE} (h : PE X e t') (i : ∀ σ H Q, t σ H Q → t' σ H Q) : PE X e t := ⟨fun pins s σ H Q I q => h.run pins s σ H Q I (i _ _ _ q)⟩
theorem PTi {e : Expr} {t t' : TT} (h : PT X e t') (i : ∀ σ H Q, t σ H Q → t' σ H Q) : PT X e t := ⟨fun pins s σ H Q I q => h.run pins s σ H Q I (i _ _ _ q)⟩
theorem PAi {e : List Expr} {t t' : TA} (h : PA X e t') (i : ∀ σ H Q, t σ H Q → t' σ H Q) : PA X e t := ⟨fun pos pins s σ H Q I q => h.run pos pins s σ H Q I (i _ _ _ q)⟩
theorem PKi {e : List Keyword} {t t' : TA} (h : PK X e t') (i : ∀ σ H Q, t σ H Q → t' σ H Q) : PK X e t := ⟨fun pos pins s σ H Q I q => h.run pos pins s σ H Q I (i _ _ _ q)⟩
theorem PSi {e : Stmt} {t t' : TS} (h : PS X e t') (i : ∀ D σ H, t D σ H → t' D σ H) : PS X e t := ⟨fun pins s σ H D I q => h.run pins s σ H D I (i _ _ _ q)⟩
theorem PSsi {e : List Stmt} {t t' : TS} (h : PSs X e t') (i : ∀ D σ H, t D σ H → t' D σ H) : PSs X e t := ⟨fun pins s σ H D I q => h.run pins s σ H D I (i _ _ _ q)⟩
end

/-! ### lists of data -/
/-- the items of a list (as it stands), of one that was made here, of a tuple -/
def lstOf (μ : Mem) : D → Option (List D)
  | .lst xs => some xs
  | .scr xs => some xs
  | .loc l => match μ[l]? with
    | some (.lst xs) => some xs
    | _ => none
  | _ => none
def lstX (μ : Mem) : D → Option (List D)
  | .lst xs => some xs
  | .loc l => match μ[l]? with
    | some (.lst xs) => some xs
    | _ => none
  | _ => none
def tupOf : D → Option (List D)
  | .tup xs => some xs
  | _ => none
def seqOf (μ : Mem) (d : D) : Option (List D) := match d with
  | .tup xs => some xs
  | d => lstOf μ d

section
variable {K : PySem.W.Frag} {mg : Str → Option Value} {w w' : Wd} {T : List (Addr × Str)} {μ : Mem} {H : Hp}
theorem RelM.lst (r : RelM K mg T w μ H) {l : Nat} {xs : List D} (h : μ[l]? = some (.lst xs)) : ∃ vs, H (w.ρ l) = some (.lst vs) ∧ RelDs K mg w xs vs := by
  have q := (r.ob l _ h).1
  generalize e : H (w.ρ l) = o at q
  cases q with
  | lst rs => exact ⟨_, rfl, rs⟩
theorem scr_H (r : RelM K mg T w μ H) {a : Addr} {vs : List V} (e : SqL K w.φ a vs ∨ w.fr a = some (.lst vs)) : SqL K H a vs := e.elim (sqL_mono r.φ) fun h => .inl (.inl (r.fr _ _ h))
theorem lstOf_rel (r : RelM K mg T w μ H) {d : D} {v : V} {xs : List D} (rd : RelD K mg w d v) (h : lstOf μ d = some xs) : ∃ a vs, v = .ref a ∧ SqL K H a vs ∧ RelDs K mg w xs vs := by
  cases rd with
  | lst e rs => cases h; exact ⟨_, _, rfl, .inl (.inl (r.φ _ _ e)), rs⟩
  | scr e rs => cases h; exact ⟨_, _, rfl, scr_H r e, rs⟩
  | @loc l hl =>
    simp only [lstOf] at h
    split at h
    · next ys q =>
      cases h
      obtain ⟨vs, h1, h2⟩ := r.lst q
      exact ⟨_, vs, rfl, .inl (.inl h1), h2⟩
    · cases h
  | _ => cases h
theorem lstX_rel (r : RelM K mg T w μ H) {d : D} {v : V} {xs : List D} (rd : RelD K mg w d v) (h : lstX μ d = some xs) : ∃ a vs, v = .ref a ∧ H a = some (.lst vs) ∧ RelDs K mg w xs vs := by
  cases rd with
  | lst e rs => cases h; exact ⟨_, _, rfl, r.φ _ _ e, rs⟩
  | @loc l hl =>
    simp only [lstX] at h
    split at h
    · next ys q =>
      cases h
      obtain ⟨vs, h1, h2⟩ := r.lst q
      exact ⟨_, vs, rfl, h1, h2⟩
    · cases h
  | _ => cases h
theorem tupOf_rel (r : RelM K mg T w μ H) {d : D} {v : V} {xs : List D} (rd : RelD K mg w d v) (h : tupOf d = some xs) : ∃ a vs, v = .ref a ∧ SqT K H a vs ∧ RelDs K mg w xs vs := by
  cases rd with
  | tup e rs => cases h; exact ⟨_, _, rfl, sqT_mono r.φ e, rs⟩
  | _ => cases h
theorem seqOf_rel (r : RelM K mg T w μ H) {d : D} {v : V} {xs : List D} (rd : RelD K mg w d v) (h : seqOf μ d = some xs) : ∃ a vs, v = .ref a ∧ (SqL K H a vs ∨ SqT K H a vs) ∧ RelDs K mg w xs vs := by
  unfold seqOf at h
  split at h
  · cases h
    obtain ⟨a, vs, h1, h2, h3⟩ := tupOf_rel r rd rfl
    exact ⟨a, vs, h1, .inr h2, h3⟩
  · obtain ⟨a, vs, h1, h2, h3⟩ := lstOf_rel r rd h
    exact ⟨a, vs, h1, .inl h2, h3⟩

theorem RelDs.get : ∀ {ds : List D} {vs : List V}, RelDs K mg w ds vs → ∀ {i : Nat} {d : D}, ds[i]? = some d → ∃ v, vs[i]? = some v ∧ RelD K mg w d v
  | _, _, .nil, i, d, e => by simp at e
  | _, _, .cons h t, 0, d, e => by cases e; exact ⟨_, rfl, h⟩
  | _, _, .cons h t, i + 1, d, e => RelDs.get t (i := i) e
theorem RelDs.get' : ∀ {ds : List D} {vs : List V}, RelDs K mg w ds vs → ∀ {i : Nat} {v : V}, vs[i]? = some v → ∃ d, ds[i]? = some d ∧ RelD K mg w d v
  | _, _, .nil, i, d, e => by simp at e
  | _, _, .cons h t, 0, d, e => by cases e; exact ⟨_, rfl, h⟩
  | _, _, .cons h t, i + 1, d, e => RelDs.get' t (i := i) e
theorem RelDs.append : ∀ {ds es : List D} {vs us : List V}, RelDs K mg w ds vs → RelDs K mg w es us → RelDs K mg w (ds ++ es) (vs ++ us)
  | _, _, _, _, .nil, h => h
  | _, _, _, _, .cons a t, h => .cons a (t.append h)
theorem RelDs.one {d : D} {v : V} (h : RelD K mg w d v) : RelDs K mg w [d] [v] := .cons h .nil
theorem RelDs.drop : ∀ (n : Nat) {ds : List D} {vs : List V}, RelDs K mg w ds vs → RelDs K mg w (ds.drop n) (vs.drop n)
  | 0, _, _, h => by simpa using h
  | n + 1, _, _, .nil => by simpa using RelDs.nil
  | n + 1, _, _, .cons _ t => by simpa using t.drop n
theorem RelDs.take : ∀ (n : Nat) {ds : List D} {vs : List V}, RelDs K mg w ds vs → RelDs K mg w (ds.take n) (vs.take n)
  | 0, _, _, h => by simpa using RelDs.nil
  | n + 1, _, _, .nil => by simpa using RelDs.nil
  | n + 1, _, _, .cons a t => by simpa using RelDs.cons a (t.take n)
theorem RelDs.reverse : ∀ {ds : List D} {vs : List V}, RelDs K mg w ds vs → RelDs K mg w ds.reverse vs.reverse
  | _, _, .nil => .nil
  | _, _, .cons a t => by simpa using t.reverse.append (.one a)
theorem RelDs.set : ∀ {ds : List D} {vs : List V}, RelDs K mg w ds vs → ∀ (i : Nat) {d : D} {v : V}, RelD K mg w d v → RelDs K mg w (ds.set i d) (vs.set i v)
  | _, _, .nil, _, _, _, _ => .nil
  | _, _, .cons a t, 0, _, _, h => .cons h t
  | _, _, .cons a t, i + 1, _, _, h => .cons a (t.set i h)
theorem RelDs.eraseIdx : ∀ {ds : List D} {vs : List V}, RelDs K mg w ds vs → ∀ (i : Nat), RelDs K mg w (ds.eraseIdx i) (vs.eraseIdx i)
  | _, _, .nil, _ => .nil
  | _, _, .cons a t, 0 => t
  | _, _, .cons a t, i + 1 => .cons a (t.eraseIdx i)
theorem RelDs.atI {ds : List D} {vs : List V} (h : RelDs K mg w ds vs) {i : Int} {d : D} (e : atI ds i = some d) : ∃ v, L2.atI vs i = some v ∧ RelD K mg w d v := by
  unfold L2.atI at e ⊢
  rw [← h.length]
  cases q : ixN ds.length i with
  | none => rw [q] at e; cases e
  | some j => rw [q] at e; exact h.get e
theorem RelDs.cutV {ds : List D} {vs : List V} (h : RelDs K mg w ds vs) (lo hi : Option Int) : RelDs K mg w ((ds.drop (HT.sIx ds.length 0 lo)).take (HT.sIx ds.length ds.length hi - HT.sIx ds.length 0 lo)) (L2.cutV vs lo hi) := by
  unfold L2.cutV
  rw [← h.length]
  exact (h.drop _).take _
end
end Kw

set_option Elab.async false
set_option linter.all false
set_option maxRecDepth 100000
namespace Kw
open PySem PySem.Spec PyProof.Rows L2

/-! ### operations by data -/
def oOf (o : Option D) (μ : Mem) : Out D := match o with
  | some d => .ok d μ
  | none => .stuck
def oOfM (o : Option (D × Mem)) : Out D := match o with
  | some (d, μ) => .ok d μ
  | none => .stuck
section
variable (K : PySem.W.Frag) (mg : Str → Option Value) (T : List (Addr × Str))
/-- a value d comes, the memory as it is -/
def Then1 (w : Wd) (μ : Mem) (Q : VK) (d : D) : Prop := ∀ w' v H', w.Le w' → RelM K mg T w' μ H' → RelD K mg w' d v → Q v H'
def rD2 (g : D → D → Mem → Option D) : R2 := fun x y H Q => ∃ w μ dx dy d, RelM K mg T w μ H ∧ RelD K mg w dx x ∧ RelD K mg w dy y ∧ g dx dy μ = some d ∧ Then1 K mg T w μ Q d
def rD1 (g : D → Mem → Option D) : V → Hp → VK → Prop := fun x H Q => ∃ w μ dx d, RelM K mg T w μ H ∧ RelD K mg w dx x ∧ g dx μ = some d ∧ Then1 K mg T w μ Q d
def rDs (g : List D → Mem → Option D) : List V → Hp → VK → Prop := fun xs H Q => ∃ w μ ds d, RelM K mg T w μ H ∧ RelDs K mg w ds xs ∧ g ds μ = some d ∧ Then1 K mg T w μ Q d
def rDm (g : D → List D → Mem → Option (D × Mem)) : V → List V → Hp → VK → Prop := fun x xs H Q => ∃ w μ dx ds d μ', RelM K mg T w μ H ∧ RelD K mg w dx x ∧ RelDs K mg w ds xs ∧ g dx ds μ = some (d, μ') ∧ Then1 K mg T w μ' Q d
end
section
variable {K : PySem.W.Frag} {mg : Str → Option Value} {S : SI} {W : WX} {T : List (Addr × Str)} {w : Wd} {μ : Mem} {H : Hp} {Q : VK} {σ : L2.St} {δ : Sv}
theorem Then1.same {d : D} {v : V} (q : Then1 K mg T w μ Q d) (r : RelM K mg T w μ H) (rd : RelD K mg w d v) : Q v H := q w v H (Wd.Le.refl _) r rd
theorem Then1.lst {ds : List D} {vs : List V} (q : Then1 K mg T w μ Q (.lst ds)) (r : RelM K mg T w μ H) (rs : RelDs K mg w ds vs) : ∀ p, H p = none → Q (.ref p) (upd H p (.lst vs)) := fun p hp =>
  q (w.lay p (.lst vs)) _ _ (r.lay_le hp _) (r.lay hp (fun _ => nofun)) (.lst Wd.lay_at (RelDs.mono (r.lay_le hp _) rs))
theorem Then1.tup {ds : List D} {vs : List V} (q : Then1 K mg T w μ Q (.tup ds)) (r : RelM K mg T w μ H) (rs : RelDs K mg w ds vs) : ∀ p, H p = none → Q (.ref p) (upd H p (.tup vs)) := fun p hp =>
  q (w.lay p (.tup vs)) _ _ (r.lay_le hp _) (r.lay hp (fun _ => nofun)) (.tup (.inl (.inl Wd.lay_at)) (RelDs.mono (r.lay_le hp _) rs))
theorem At.opt {o : Option D} (h : At K mg S W (RelD K mg) σ Q w δ μ H (oOf o μ)) : ∃ d, o = some d ∧ Then1 K mg S.T w μ Q d := by
  cases o with
  | none => exact h.2.2.elim
  | some d => exact ⟨d, rfl, h.2.2⟩
theorem At.optM {o : Option (D × Mem)} (h : At K mg S W (RelD K mg) σ Q w δ μ H (oOfM o)) : ∃ d μ', o = some (d, μ') ∧ Then1 K mg S.T w μ' Q d := by
  cases o with
  | none => exact h.2.2.elim
  | some d => exact ⟨d.1, d.2, rfl, h.2.2⟩
end

/-! ### expressions -/
abbrev TEm (X : Cx) (S : SI) (W : WX) (m : EM) : TE := tE X.K X.mg S W m
abbrev TTm (X : Cx) (S : SI) (W : WX) (m : TM) : TT := tT X.K X.mg S W m
abbrev TAm (X : Cx) (S : SI) (W : WX) (m : AM) : TA := tA X.K X.mg S W m
def eVar (i : Nat) : EM := fun δ μ => match δ[i]? with
  | some (some d) => match d with
    | .lam => .stuck
    | .exc _ _ => .stuck
    | d => .ok d μ
  | _ => .stuck
def eC (d : D) : EM := fun _ μ => .ok d μ
def e1 (g : D → Mem → Option D) (ma : EM) : EM := fun δ μ => (ma δ μ).bind fun x μ1 => oOf (g x μ1) μ1
def e2 (g : D → D → Mem → Option D) (ma mb : EM) : EM := fun δ μ => (ma δ μ).bind fun x μ1 => (mb δ μ1).bind fun y μ2 => oOf (g x y μ2) μ2
def eAs (g : List D → Mem → Option D) (ma : AM) : EM := fun δ μ => (ma δ μ).bind fun xs μ1 => oOf (g xs μ1) μ1
def eMt (g : D → List D → Mem → Option (D × Mem)) (mo : EM) (ma : AM) : EM := fun δ μ => (mo δ μ).bind fun x μ1 => (ma δ μ1).bind fun xs μ2 => oOfM (g x xs μ2)
def aNil : AM := fun _ μ => .ok [] μ
def aCons (ma : EM) (mr : AM) : AM := fun δ μ => (ma δ μ).bind fun x μ1 => (mr δ μ1).bind fun xs μ2 => .ok (x :: xs) μ2
def truD (μ : Mem) : D → Option Bool
  | .non => some false
  | .bl b => some b
  | .int i => some (i != 0)
  | .str y => if y.length ≤ sizeLine then some ((y.length : Int) != 0) else none
  | .tup xs => some !xs.isEmpty
  | .lst xs => some !xs.isEmpty
  | .scr xs => some !xs.isEmpty
  | .dct kvs => none
  | .loc l => match μ[l]? with
    | some (.lst xs) => some !xs.isEmpty
    | some (.dct kvs) => some !kvs.isEmpty
    | _ => none
  | _ => none
def bOf (o : Option Bool) (μ : Mem) : Out Bool := match o with
  | some d => .ok d μ
  | none => .stuck
/-- a test: the value's truth -/
def tTru (ma : EM) : TM := fun δ μ => (ma δ μ).bind fun x μ1 => bOf (truD μ1 x) μ1
def tNotM (ma : TM) : TM := fun δ μ => (ma δ μ).bind fun b μ1 => .ok (!b) μ1
def tAndM (ma mb : TM) : TM := fun δ μ => (ma δ μ).bind fun b μ1 => if b = true then mb δ μ1 else .ok false μ1
def tOrM (ma mb : TM) : TM := fun δ μ => (ma δ μ).bind fun b μ1 => if b = true then .ok true μ1 else mb δ μ1
def eNotM (ma : EM) : EM := fun δ μ => (ma δ μ).bind fun x μ1 => (bOf (truD μ1 x) μ1).bind fun b μ2 => .ok (.bl !b) μ2
def eAndM (ma mb : EM) : EM := fun δ μ => (ma δ μ).bind fun x μ1 => (bOf (truD μ1 x) μ1).bind fun b μ2 => if b = true then mb δ μ2 else .ok x μ2
def eOrM (ma mb : EM) : EM := fun δ μ => (ma δ μ).bind fun x μ1 => (bOf (truD μ1 x) μ1).bind fun b μ2 => if b = true then .ok x μ2 else mb δ μ2
def eIfM (mt : TM) (ma mb : EM) : EM := fun δ μ => (mt δ μ).bind fun b μ1 => if b = true then ma δ μ1 else mb δ μ1

section
variable {X : Cx} {S : SI} {W : WX} {a b c e : Expr} {es : List Expr} {ma mb : EM} {mt mu : TM} {mr : AM} {pos p apos : Pos} {x : Str}
theorem pe_var' {i : Nat} (hN : X.N[i]? = some x) (hv : Vis X.env.scope x) (hd : (x == ("__debug__" : Str)) = false := by decide) (hcd : (x == ("__classdict__" : Str)) = false := by decide) : PE X (.Name x pos) (TEm X S W <| eVar i) :=
  PEi (pe_var hN hv hd hcd) fun σ H Q ⟨w, δ, μ, h⟩ => by
    have h3 := h.2.2
    unfold eVar at h3
    split at h3
    · next d hd =>
      obtain ⟨v, hv, rv⟩ := h.1.2 i d hd
      refine ⟨v, hv, ?_⟩
      split at h3
      · exact h3.elim
      · exact h3.elim
      · next n1 n2 =>
        refine h3 w v H (Wd.Le.refl _) h.2.1 ?_
        cases d with
        | lam => exact absurd rfl n1
        | exc c fs => exact absurd rfl (n2 c fs)
        | _ => exact rv
    · exact h3.elim
theorem pe_C' {d : D} {v : V} (h : PE X e (tC v)) (r : ∀ w, RelD X.K X.mg w d v) : PE X e (TEm X S W <| eC d) :=
  PEi h fun σ H Q ⟨w, δ, μ, h⟩ => h.2.2 w v H (Wd.Le.refl _) h.2.1 (r w)
theorem pe_1 {r : V → Hp → VK → Prop} {g : D → Mem → Option D} (h : ∀ t, PE X a t → PE X e (fun σ H Q => t σ H fun x H1 => r x H1 Q)) (hr : ∀ x H Q, rD1 X.K X.mg S.T g x H Q → r x H Q) (ha : PE X a (TEm X S W <| ma)) : PE X e (TEm X S W <| e1 g ma) :=
  PEi (h _ ha) fun σ H Q ⟨w, δ, μ, h⟩ => ⟨w, δ, μ, (At.bind h).mono fun x H1 ⟨w1, μ1, d, le, rd, h1⟩ => by
    obtain ⟨z, e, q⟩ := h1.opt
    exact hr _ _ _ ⟨w1, μ1, d, z, h1.2.1, rd, e, q⟩⟩
theorem pe_2 {r : R2} {g : D → D → Mem → Option D} (h : ∀ t u, PE X a t → PE X b u → PE X e (tOp r t u)) (hr : ∀ x y H Q, rD2 X.K X.mg S.T g x y H Q → r x y H Q) (ha : PE X a (TEm X S W <| ma)) (hb : PE X b (TEm X S W <| mb)) : PE X e (TEm X S W <| e2 g ma mb) :=
  PEi (h _ _ ha hb) fun σ H Q ⟨w, δ, μ, h⟩ => ⟨w, δ, μ, (At.bind h).mono fun x H1 ⟨w1, μ1, d, le, rd, h1⟩ => ⟨w1, δ, μ1, (At.bind h1).mono fun y H2 ⟨w2, μ2, f, le2, re, h2⟩ => by
    obtain ⟨z, e, q⟩ := h2.opt
    exact hr _ _ _ _ ⟨w2, μ2, d, f, z, h2.2.1, rd.mono le2, re, e, q⟩⟩⟩
theorem pe_As {r : List V → Hp → VK → Prop} {g : List D → Mem → Option D} (h : ∀ t, PA X es t → PE X e (tCB r t)) (hr : ∀ x H Q, rDs X.K X.mg S.T g x H Q → r x H Q) (ha : PA X es (TAm X S W <| mr)) : PE X e (TEm X S W <| eAs g mr) :=
  PEi (h _ ha) fun σ H Q ⟨w, δ, μ, h⟩ => ⟨w, δ, μ, (At.bind h).mono fun x H1 ⟨w1, μ1, d, le, rd, h1⟩ => by
    obtain ⟨z, e, q⟩ := h1.opt
    exact hr _ _ _ ⟨w1, μ1, d, z, h1.2.1, rd, e, q⟩⟩
theorem pa_nil' : PA X [] (TAm X S W <| aNil) := PAi pa_nil fun σ H Q ⟨w, δ, μ, h⟩ => h.2.2 w [] H (Wd.Le.refl _) h.2.1 .nil
theorem pa_cons' (ha : PE X a (TEm X S W <| ma)) (hr : PA X es (TAm X S W <| mr)) (hs : starEach (a :: es) X.env = (false, eval a X.env) :: starEach es X.env := by rfl) : PA X (a :: es) (TAm X S W <| aCons ma mr) :=
  PAi (pa_cons ha hr hs) fun σ H Q ⟨w, δ, μ, h⟩ => ⟨w, δ, μ, (At.bind h).mono fun x H1 ⟨w1, μ1, d, le, rd, h1⟩ => ⟨w1, δ, μ1, (At.bind h1).mono fun y H2 ⟨w2, μ2, f, le2, re, h2⟩ =>
    h2.2.2 w2 (x :: y) H2 (Wd.Le.refl _) h2.2.1 (.cons (rd.mono le2) re)⟩⟩
/-- a tuple, a list of items -/
def gTupD : List D → Mem → Option D := fun ds _ => if ds.length ≤ sizeLine then some (.tup ds) else none
def gLstD : List D → Mem → Option D := fun ds _ => if ds.length ≤ sizeLine then some (.lst ds) else none
theorem pe_tup' {x1} (h : PA X es (TAm X S W <| mr)) : PE X (.Tuple es x1 pos) (TEm X S W <| eAs gTupD mr) :=
  pe_As (r := fun xs H1 Q => xs.length ≤ sizeLine ∧ ∀ p, H1 p = none → Q (.ref p) (upd H1 p (.tup xs))) (fun t h => pe_tup h) (fun xs H Q ⟨w, μ, ds, d, r, rs, e, q⟩ => by
    unfold gTupD at e
    split at e
    · next hl =>
      cases e
      exact ⟨by rw [← rs.length]; exact hl, q.tup r rs⟩
    · cases e) h
theorem pe_lst' (h : PA X es (TAm X S W <| mr)) : PE X (.List es pos) (TEm X S W <| eAs gLstD mr) :=
  pe_As (r := fun xs H1 Q => xs.length ≤ sizeLine ∧ ∀ p, H1 p = none → Q (.ref p) (upd H1 p (.lst xs))) (fun t h => pe_lst h) (fun xs H Q ⟨w, μ, ds, d, r, rs, e, q⟩ => by
    unfold gLstD at e
    split at e
    · next hl =>
      cases e
      exact ⟨by rw [← rs.length]; exact hl, q.lst r rs⟩
    · cases e) h
/-- truth -/
theorem truD_rel {K : PySem.W.Frag} {mg : Str → Option Value} {T : List (Addr × Str)} {w : Wd} {μ : Mem} {H : Hp} {d : D} {v : V} {k : Bool} (r : RelM K mg T w μ H) (rd : RelD K mg w d v) (h : truD μ d = some k) : TruV K v H k := by
  cases rd with
  | non => cases h; rfl
  | bl b => cases h; rfl
  | int i => cases h; rfl
  | str y =>
    simp only [truD] at h
    split at h
    · next hl => cases h; exact ⟨hl, rfl⟩
    · cases h
  | tup e rs =>
    cases h
    refine .inr (.inl ⟨_, sqT_mono r.φ e, ?_⟩)
    cases rs <;> rfl
  | lst e rs =>
    cases h
    refine .inl ⟨_, .inl (.inl (r.φ _ _ e)), ?_⟩
    cases rs <;> rfl
  | scr e rs =>
    cases h
    refine .inl ⟨_, scr_H r e, ?_⟩
    cases rs <;> rfl
  | @loc l hl =>
    simp only [truD] at h
    split at h
    · next xs q =>
      cases h
      obtain ⟨vs, h1, h2⟩ := r.lst q
      refine .inl ⟨vs, .inl (.inl h1), ?_⟩
      cases h2 <;> rfl
    · next kvs q =>
      cases h
      have z := (r.ob _ _ q).1
      generalize e : H (w.ρ l) = o at z
      cases z with
      | @dct _ gs hk hv =>
        refine .inr (.inr ⟨gs, e, ?_⟩)
        have : kvs.length = gs.length := by have := congrArg List.length hk; simpa using this
        cases kvs <;> cases gs <;> simp_all
    · cases h
  | _ => cases h
theorem pt_tru' (ha : PE X a (TEm X S W <| ma)) (he : ∀ whole, isTrue a X.env whole = (do let v ← whole; standAt a.pos; holding [v] (truthy v)) := by intro _; rfl) : PT X a (TTm X S W <| tTru ma) :=
  PTi (pt_truth ha he) fun σ H Q ⟨w, δ, μ, h⟩ => ⟨w, δ, μ, (At.bind h).mono fun x H1 ⟨w1, μ1, d, le, rd, h1⟩ => by
    have h3 := h1.2.2
    cases e : truD μ1 d with
    | none => rw [e] at h3; exact h3.elim
    | some k => rw [e] at h3; exact ⟨k, truD_rel h1.2.1 rd e, h3 w1 k H1 (Wd.Le.refl _) h1.2.1 rfl⟩⟩
theorem pt_not' (ha : PT X a (TTm X S W <| mt)) : PT X (.UnaryOp .Not a pos) (TTm X S W <| tNotM mt) :=
  PTi (pt_not ha) fun σ H Q ⟨w, δ, μ, h⟩ => ⟨w, δ, μ, (At.bind h).mono fun x H1 ⟨w1, μ1, d, le, rd, h1⟩ => by
    cases rd
    exact h1.2.2 w1 _ H1 (Wd.Le.refl _) h1.2.1 rfl⟩
theorem pe_ifExp' (hc : PT X c (TTm X S W <| mt)) (ha : PE X a (TEm X S W <| ma)) (hb : PE X b (TEm X S W <| mb)) : PE X (.IfExp c a b pos) (TEm X S W <| eIfM mt ma mb) :=
  PEi (pe_ifExp hc ha hb) fun σ H Q ⟨w, δ, μ, h⟩ => ⟨w, δ, μ, (At.bind h).mono fun x H1 ⟨w1, μ1, d, le, rd, h1⟩ => by
    cases rd
    split
    · next hx => rw [if_pos hx] at h1; exact h1.tM
    · next hx => rw [if_neg hx] at h1; exact h1.tM⟩
theorem pw_and1' (ha : PT X a (TTm X S W mt)) : PW X (.BoolOp .And [a] pos) (TTm X S W mt) := pw_and1 ha
theorem pw_or1' (ha : PT X a (TTm X S W mt)) : PW X (.BoolOp .Or [a] pos) (TTm X S W mt) := pw_or1 ha
theorem PWi {e : Expr} {t t' : TT} (h : PW X e t') (i : ∀ σ H Q, t σ H Q → t' σ H Q) : PW X e t := ⟨fun wh pins s σ H Q I q => h.run wh pins s σ H Q I (i _ _ _ q)⟩
theorem pw_and' (ha : PT X a (TTm X S W mt)) (hb : PW X (.BoolOp .And (b :: es) pos) (TTm X S W mu)) : PW X (.BoolOp .And (a :: b :: es) pos) (TTm X S W <| tAndM mt mu) :=
  PWi (pw_and ha hb) fun σ H Q ⟨w, δ, μ, h⟩ => ⟨w, δ, μ, (At.bind h).mono fun x H1 ⟨w1, μ1, d, le, rd, h1⟩ => by
    cases rd
    split
    · next hx => rw [if_pos hx] at h1; exact h1.tM
    · next hx =>
      rw [if_neg hx] at h1
      exact h1.2.2 w1 _ H1 (Wd.Le.refl _) h1.2.1 rfl⟩
theorem pw_or' (ha : PT X a (TTm X S W mt)) (hb : PW X (.BoolOp .Or (b :: es) pos) (TTm X S W mu)) : PW X (.BoolOp .Or (a :: b :: es) pos) (TTm X S W <| tOrM mt mu) :=
  PWi (pw_or ha hb) fun σ H Q ⟨w, δ, μ, h⟩ => ⟨w, δ, μ, (At.bind h).mono fun x H1 ⟨w1, μ1, d, le, rd, h1⟩ => by
    cases rd
    split
    · next hx =>
      rw [if_pos hx] at h1
      exact h1.2.2 w1 _ H1 (Wd.Le.refl _) h1.2.1 rfl
    · next hx => rw [if_neg hx] at h1; exact h1.tM⟩
theorem pe_not' (ha : PE X a (TEm X S W ma)) : PE X (.UnaryOp .Not a pos) (TEm X S W <| eNotM ma) :=
  PEi (pe_notT ha) fun σ H Q ⟨w, δ, μ, h⟩ => ⟨w, δ, μ, (At.bind h).mono fun x H1 ⟨w1, μ1, d, le, rd, h1⟩ => by
    have h3 := h1.2.2
    cases e : truD μ1 d with
    | none => rw [e] at h3; exact h3.elim
    | some k => rw [e] at h3; exact ⟨k, truD_rel h1.2.1 rd e, h3 w1 _ H1 (Wd.Le.refl _) h1.2.1 (.bl _)⟩⟩
theorem pe_and1' (ha : PE X a (TEm X S W ma)) : PE X (.BoolOp .And [a] pos) (TEm X S W ma) := pe_one ha
theorem pe_or1' (ha : PE X a (TEm X S W ma)) : PE X (.BoolOp .Or [a] pos) (TEm X S W ma) := pe_one ha
theorem pe_and' (ha : PE X a (TEm X S W ma)) (hb : PE X (.BoolOp .And (b :: es) pos) (TEm X S W mb)) : PE X (.BoolOp .And (a :: b :: es) pos) (TEm X S W <| eAndM ma mb) :=
  PEi (pe_andT ha hb) fun σ H Q ⟨w, δ, μ, h⟩ => ⟨w, δ, μ, (At.bind h).mono fun x H1 ⟨w1, μ1, d, le, rd, h1⟩ => by
    have h3 := h1
    cases e : truD μ1 d with
    | none => rw [e] at h3; exact h3.2.2.elim
    | some k =>
      rw [e] at h3
      refine ⟨k, truD_rel h1.2.1 rd e, ?_⟩
      have h4 : At X.K X.mg S W (RelD X.K X.mg) σ Q w1 δ μ1 H1 (if k = true then mb δ μ1 else .ok d μ1) := h3
      split
      · next hx => rw [if_pos hx] at h4; exact h4.tM
      · next hx => rw [if_neg hx] at h4; exact h4.2.2 w1 _ H1 (Wd.Le.refl _) h4.2.1 rd⟩
theorem pe_or' (ha : PE X a (TEm X S W ma)) (hb : PE X (.BoolOp .Or (b :: es) pos) (TEm X S W mb)) : PE X (.BoolOp .Or (a :: b :: es) pos) (TEm X S W <| eOrM ma mb) :=
  PEi (pe_orT ha hb) fun σ H Q ⟨w, δ, μ, h⟩ => ⟨w, δ, μ, (At.bind h).mono fun x H1 ⟨w1, μ1, d, le, rd, h1⟩ => by
    have h3 := h1
    cases e : truD μ1 d with
    | none => rw [e] at h3; exact h3.2.2.elim
    | some k =>
      rw [e] at h3
      refine ⟨k, truD_rel h1.2.1 rd e, ?_⟩
      have h4 : At X.K X.mg S W (RelD X.K X.mg) σ Q w1 δ μ1 H1 (if k = true then .ok d μ1 else mb δ μ1) := h3
      split
      · next hx => rw [if_pos hx] at h4; exact h4.2.2 w1 _ H1 (Wd.Le.refl _) h4.2.1 rd
      · next hx => rw [if_neg hx] at h4; exact h4.tM⟩
end
end Kw

set_option Elab.async false
set_option linter.all false
set_option maxRecDepth 100000
namespace Kw
open PySem PySem.Spec PyProof.Rows L2

/-! ### data as the library's data -/
mutual
def pyW (f : Nat → Option PyData) : D → Option PyData
  | .non => some .none
  | .bl b => some (.bool b)
  | .int i => some (.int i)
  | .str x => some (.str x)
  | .tup xs => match pyWs f xs with
    | some ps => some (.tuple ps)
    | none => none
  | .lst xs => match pyWs f xs with
    | some ps => some (.list ps)
    | none => none
  | .scr xs => match pyWs f xs with
    | some ps => some (.list ps)
    | none => none
  | .loc l => f l
  | _ => none
def pyWs (f : Nat → Option PyData) : List D → Option (List PyData)
  | [] => some []
  | d :: ds => match pyW f d, pyWs f ds with
    | some p, some ps => some (p :: ps)
    | _, _ => none
end
def pyL (μ : Mem) : Nat → Nat → Option PyData
  | 0, _ => none
  | n + 1, l => match μ[l]? with
    | some (.lst xs) => match pyWs (pyL μ n) xs with
      | some ps => some (.list ps)
      | none => none
    | _ => none
def pyOf (μ : Mem) (d : D) : Option PyData := pyW (pyL μ 4) d

section
variable {K : PySem.W.Frag} {mg : Str → Option Value} {T : List (Addr × Str)} {w : Wd} {μ : Mem} {H : Hp}
mutual
theorem pyW_dp (r : RelM K mg T w μ H) {f : Nat → Option PyData} (hf : ∀ l p, f l = some p → Dp K H (.ref (w.ρ l)) p) : ∀ (d : D) (v : V) (p : PyData), RelD K mg w d v → pyW f d = some p → Dp K H v p
  | .non, _, _, rd, h => by cases rd; cases h; exact .non
  | .bl b, _, _, rd, h => by cases rd; cases h; exact .bl b
  | .int i, _, _, rd, h => by cases rd; cases h; exact .int i
  | .str i, _, _, rd, h => by cases rd; cases h; exact .str i
  | .tup xs, _, _, rd, h => by
    cases rd with
    | tup e rs =>
      simp only [pyW] at h
      split at h
      · next ps hp => cases h; exact .tup (sqT_mono r.φ e) (pyWs_dp r hf xs _ _ rs hp)
      · cases h
  | .lst xs, _, _, rd, h => by
    cases rd with
    | lst e rs =>
      simp only [pyW] at h
      split at h
      · next ps hp => cases h; exact .lst (.inl (.inl (r.φ _ _ e))) (pyWs_dp r hf xs _ _ rs hp)
      · cases h
  | .scr xs, _, _, rd, h => by
    cases rd with
    | scr e rs =>
      simp only [pyW] at h
      split at h
      · next ps hp => cases h; exact .lst (scr_H r e) (pyWs_dp r hf xs _ _ rs hp)
      · cases h
  | .loc l, _, _, rd, h => by
    cases rd with
    | loc hl => exact hf l _ h
  | .dct _, _, _, _, h => by cases h
  | .brd _, _, _, _, h => by cases h
  | .glb _, _, _, _, h => by cases h
  | .ty _, _, _, _, h => by cases h
  | .lam, _, _, _, h => by cases h
  | .exc _ _, _, _, _, h => by cases h
theorem pyWs_dp (r : RelM K mg T w μ H) {f : Nat → Option PyData} (hf : ∀ l p, f l = some p → Dp K H (.ref (w.ρ l)) p) : ∀ (ds : List D) (vs : List V) (ps : List PyData), RelDs K mg w ds vs → pyWs f ds = some ps → DpAll K H vs ps
  | [], _, _, rd, h => by cases rd; cases h; exact .nil
  | d :: ds, _, _, rd, h => by
    cases rd with
    | cons r1 r2 =>
      simp only [pyWs] at h
      split at h
      · next p ps hp hps => cases h; exact .cons (pyW_dp r hf d _ _ r1 hp) (pyWs_dp r hf ds _ _ r2 hps)
      · cases h
end
theorem pyL_dp (r : RelM K mg T w μ H) : ∀ (n l : Nat) (p : PyData), pyL μ n l = some p → Dp K H (.ref (w.ρ l)) p
  | 0, l, p, h => by cases h
  | n + 1, l, p, h => by
    simp only [pyL] at h
    split at h
    · next xs q =>
      obtain ⟨vs, h1, h2⟩ := r.lst q
      split at h
      · next ps hp => cases h; exact .lst (.inl (.inl h1)) (pyWs_dp r (pyL_dp r n) _ _ _ h2 hp)
      · cases h
    · cases h
theorem pyOf_dp (r : RelM K mg T w μ H) {d : D} {v : V} {p : PyData} (rd : RelD K mg w d v) (h : pyOf μ d = some p) : Dp K H v p := pyW_dp r (fun l p => pyL_dp r 4 l p) d v p rd h
end

/-! ### operators -/
def gAdd : D → D → Mem → Option D
  | .int i, .int j, _ => some (.int (i + j))
  | .str a, .str b, _ => if a.length + b.length ≤ sizeLine then some (.str (a ++ b)) else none
  | .tup a, .tup b, _ => if a.length + b.length ≤ sizeLine then some (.tup (a ++ b)) else none
  | x, y, μ => match lstX μ x, lstX μ y with
    | some a, some b => if a.length + b.length ≤ sizeLine then some (.lst (a ++ b)) else none
    | _, _ => none
def gSub : D → D → Mem → Option D
  | .int i, .int j, _ => some (.int (i - j))
  | _, _, _ => none
def gMul : D → D → Mem → Option D
  | .int i, .int j, _ => if ((-(18446744073709551616) < i ∧ i < 18446744073709551616) ∨ (-(18446744073709551616) < j ∧ j < 18446744073709551616)) ∨ i.natAbs.log2 + j.natAbs.log2 < 1000000 then some (.int (i * j)) else none
  | _, _, _ => none
def gMod : D → D → Mem → Option D
  | .int i, .int j, _ => if 0 < j then some (.int (i % j)) else none
  | _, _, _ => none
def gFdv : D → D → Mem → Option D
  | .int i, .int j, _ => if 0 < j ∧ (j < 1073741824 ∨ j.natAbs.log2 < 9000) then some (.int (i / j)) else none
  | _, _, _ => none
def gPow : D → D → Mem → Option D
  | .int i, .int j, _ => if 0 ≤ j ∧ j ≤ 1000000 ∧ i.natAbs < 18446744073709551616 then some (.int (i ^ j.toNat)) else none
  | _, _, _ => none
def gLt : D → D → Mem → Option D
  | .int i, .int j, _ => some (.bl (decide (i < j)))
  | _, _, _ => none
def gLe : D → D → Mem → Option D
  | .int i, .int j, _ => some (.bl (decide (i ≤ j)))
  | _, _, _ => none
def gGt : D → D → Mem → Option D
  | .int i, .int j, _ => some (.bl (decide (j < i)))
  | _, _, _ => none
def gGe : D → D → Mem → Option D
  | .int i, .int j, _ => some (.bl (decide (j ≤ i)))
  | _, _, _ => none
def eqD (x y : D) (μ : Mem) : Option Bool := match pyOf μ x, pyOf μ y with
  | some p, some q => if (SeqAt.shaped p && SeqAt.shaped q) = true then some (PyData.eqv p q) else none
  | _, _ => none
def gEq (x y : D) (μ : Mem) : Option D := match eqD x y μ with
  | some b => some (.bl b)
  | none => none
def gNe (x y : D) (μ : Mem) : Option D := match eqD x y μ with
  | some b => some (.bl !b)
  | none => none
def isD : D → D → Option Bool
  | .non, .non => some true
  | _, .non => some false
  | .bl a, .bl b => some (decide (a = b))
  | _, _ => none
def gIs (x y : D) (_ : Mem) : Option D := match isD x y with
  | some b => some (.bl b)
  | none => none
def gIsNot (x y : D) (_ : Mem) : Option D := match isD x y with
  | some b => some (.bl !b)
  | none => none
section
variable {K : PySem.W.Frag} {mg : Str → Option Value} {T : List (Addr × Str)} {x y : V} {H : Hp} {Q : VK}
theorem add_r (h : rD2 K mg T gAdd x y H Q) : rI0 (fun i j => .int (i + j)) x y H Q ∨ (∃ i j, x = .str i ∧ y = .str j ∧ i.length + j.length ≤ sizeLine ∧ Q (.str (i ++ j)) H) ∨ rCatA K x y H Q ∨ rCat x y H Q := by
  obtain ⟨w, μ, dx, dy, d, r, rx, ry, e, q⟩ := h
  unfold gAdd at e
  split at e
  · cases rx; cases ry; cases e
    exact .inl ⟨_, _, rfl, rfl, q.same r (.int _)⟩
  · cases rx; cases ry
    split at e
    · next hl => cases e; exact .inr (.inl ⟨_, _, rfl, rfl, hl, q.same r (.str _)⟩)
    · cases e
  · next as bs =>
    split at e
    · next hl =>
      cases e
      obtain ⟨a, vs, rfl, h1, h2⟩ := tupOf_rel r rx rfl
      obtain ⟨b, us, rfl, h3, h4⟩ := tupOf_rel r ry rfl
      refine .inr (.inr (.inl ⟨a, b, vs, us, rfl, rfl, h1, h3, by rw [← h2.length, ← h4.length]; exact hl, fun e => ?_, fun _ e => ?_, fun _ _ => ?_⟩))
      · subst e
        cases h2
        exact q.same r ry
      · subst e
        cases h4
        rw [List.append_nil] at q
        exact q.same r rx
      · exact q.tup r (h2.append h4)
    · cases e
  · split at e
    · next as bs ea eb =>
      split at e
      · next hl =>
        cases e
        obtain ⟨a, vs, rfl, h1, h2⟩ := lstX_rel r rx ea
        obtain ⟨b, us, rfl, h3, h4⟩ := lstX_rel r ry eb
        exact .inr (.inr (.inr ⟨a, b, vs, us, rfl, rfl, h1, h3, by rw [← h2.length, ← h4.length]; exact hl, q.lst r (h2.append h4)⟩))
      · cases e
    · cases e
theorem sub_r (h : rD2 K mg T gSub x y H Q) : rI0 (fun i j => .int (i - j)) x y H Q := by
  obtain ⟨w, μ, dx, dy, d, r, rx, ry, e, q⟩ := h
  unfold gSub at e
  split at e
  · cases rx; cases ry; cases e
    exact ⟨_, _, rfl, rfl, q.same r (.int _)⟩
  · cases e
theorem mul_r (h : rD2 K mg T gMul x y H Q) : rI CMul (fun i j => .int (i * j)) x y H Q ∨ rI CMulW (fun i j => .int (i * j)) x y H Q := by
  obtain ⟨w, μ, dx, dy, d, r, rx, ry, e, q⟩ := h
  unfold gMul at e
  split at e
  · cases rx; cases ry
    split at e
    · next hc =>
      cases e
      rcases hc with hc | hc
      · exact .inl ⟨_, _, rfl, rfl, hc, q.same r (.int _)⟩
      · exact .inr ⟨_, _, rfl, rfl, hc, q.same r (.int _)⟩
    · cases e
  · cases e
theorem mod_r (h : rD2 K mg T gMod x y H Q) : rI (fun _ j => 0 < j) (fun i j => .int (i % j)) x y H Q := by
  obtain ⟨w, μ, dx, dy, d, r, rx, ry, e, q⟩ := h
  unfold gMod at e
  split at e
  · cases rx; cases ry
    split at e
    · next hc => cases e; exact ⟨_, _, rfl, rfl, hc, q.same r (.int _)⟩
    · cases e
  · cases e
theorem fdv_r (h : rD2 K mg T gFdv x y H Q) : rI CDiv (fun i j => .int (i / j)) x y H Q ∨ rI CDivW (fun i j => .int (i / j)) x y H Q := by
  obtain ⟨w, μ, dx, dy, d, r, rx, ry, e, q⟩ := h
  unfold gFdv at e
  split at e
  · cases rx; cases ry
    split at e
    · next hc =>
      cases e
      obtain ⟨h0, hc | hc⟩ := hc
      · exact .inl ⟨_, _, rfl, rfl, ⟨h0, hc⟩, q.same r (.int _)⟩
      · exact .inr ⟨_, _, rfl, rfl, ⟨h0, hc⟩, q.same r (.int _)⟩
    · cases e
  · cases e
theorem pow_r (h : rD2 K mg T gPow x y H Q) : rI CPow (fun i j => .int (i ^ j.toNat)) x y H Q := by
  obtain ⟨w, μ, dx, dy, d, r, rx, ry, e, q⟩ := h
  unfold gPow at e
  split at e
  · cases rx; cases ry
    split at e
    · next hc => cases e; exact ⟨_, _, rfl, rfl, ⟨hc.1, hc.2.1, by have := hc.2.2; omega⟩, q.same r (.int _)⟩
    · cases e
  · cases e
theorem lt_r (h : rD2 K mg T gLt x y H Q) : rI0 (fun i j => .bl (decide (i < j))) x y H Q := by
  obtain ⟨w, μ, dx, dy, d, r, rx, ry, e, q⟩ := h
  unfold gLt at e
  split at e
  · cases rx; cases ry; cases e
    exact ⟨_, _, rfl, rfl, q.same r (.bl _)⟩
  · cases e
theorem le_r (h : rD2 K mg T gLe x y H Q) : rI0 (fun i j => .bl (decide (i ≤ j))) x y H Q := by
  obtain ⟨w, μ, dx, dy, d, r, rx, ry, e, q⟩ := h
  unfold gLe at e
  split at e
  · cases rx; cases ry; cases e
    exact ⟨_, _, rfl, rfl, q.same r (.bl _)⟩
  · cases e
theorem gt_r (h : rD2 K mg T gGt x y H Q) : rI0 (fun i j => .bl (decide (j < i))) x y H Q := by
  obtain ⟨w, μ, dx, dy, d, r, rx, ry, e, q⟩ := h
  unfold gGt at e
  split at e
  · cases rx; cases ry; cases e
    exact ⟨_, _, rfl, rfl, q.same r (.bl _)⟩
  · cases e
theorem ge_r (h : rD2 K mg T gGe x y H Q) : rI0 (fun i j => .bl (decide (j ≤ i))) x y H Q := by
  obtain ⟨w, μ, dx, dy, d, r, rx, ry, e, q⟩ := h
  unfold gGe at e
  split at e
  · cases rx; cases ry; cases e
    exact ⟨_, _, rfl, rfl, q.same r (.bl _)⟩
  · cases e
theorem eqD_r {w : Wd} {μ : Mem} {dx dy : D} {b : Bool} (r : RelM K mg T w μ H) (rx : RelD K mg w dx x) (ry : RelD K mg w dy y) (e : eqD dx dy μ = some b) : ∃ p q, Dp K H x p ∧ Dp K H y q ∧ SeqAt.shaped p = true ∧ SeqAt.shaped q = true ∧ b = PyData.eqv p q := by
  unfold eqD at e
  split at e
  · next p q hp hq =>
    split at e
    · next hs =>
      cases e
      rw [Bool.and_eq_true] at hs
      exact ⟨p, q, pyOf_dp r rx hp, pyOf_dp r ry hq, hs.1, hs.2, rfl⟩
    · cases e
  · cases e
theorem eq_r (h : rD2 K mg T gEq x y H Q) : rEqD K x y H Q := by
  obtain ⟨w, μ, dx, dy, d, r, rx, ry, e, q⟩ := h
  unfold gEq at e
  split at e
  · next b hb =>
    cases e
    obtain ⟨p, p', h1, h2, h3, h4, rfl⟩ := eqD_r r rx ry hb
    exact ⟨p, p', h1, h2, h3, h4, q.same r (.bl _)⟩
  · cases e
theorem ne_r (h : rD2 K mg T gNe x y H Q) : rNeD K x y H Q := by
  obtain ⟨w, μ, dx, dy, d, r, rx, ry, e, q⟩ := h
  unfold gNe at e
  split at e
  · next b hb =>
    cases e
    obtain ⟨p, p', h1, h2, h3, h4, rfl⟩ := eqD_r r rx ry hb
    exact ⟨p, p', h1, h2, h3, h4, q.same r (.bl _)⟩
  · cases e
theorem isD_r {w : Wd} {dx dy : D} {b : Bool} (rx : RelD K mg w dx x) (ry : RelD K mg w dy y) (e : isD dx dy = some b) : (y = .non ∧ b = decide (x = .non)) ∨ ∃ k j : Bool, x = .bl k ∧ y = .bl j ∧ b = decide (k = j) := by
  unfold isD at e
  split at e
  · cases rx; cases ry; cases e; exact .inl ⟨rfl, by simp⟩
  · next hn =>
    cases ry; cases e
    refine .inl ⟨rfl, ?_⟩
    cases rx <;> simp at *
  · cases rx; cases ry; cases e
    exact .inr ⟨_, _, rfl, rfl, rfl⟩
  · cases e
theorem is_r (h : rD2 K mg T gIs x y H Q) : (y = .non ∧ Q (.bl (decide (x = .non))) H) ∨ rIsB x y H Q := by
  obtain ⟨w, μ, dx, dy, d, r, rx, ry, e, q⟩ := h
  unfold gIs at e
  split at e
  · next b hb =>
    cases e
    rcases isD_r rx ry hb with ⟨h1, rfl⟩ | ⟨k, j, h1, h2, rfl⟩
    · exact .inl ⟨h1, q.same r (.bl _)⟩
    · exact .inr ⟨k, j, h1, h2, q.same r (.bl _)⟩
  · cases e
theorem isNot_r (h : rD2 K mg T gIsNot x y H Q) : (y = .non ∧ Q (.bl (!decide (x = .non))) H) ∨ rNotB x y H Q := by
  obtain ⟨w, μ, dx, dy, d, r, rx, ry, e, q⟩ := h
  unfold gIsNot at e
  split at e
  · next b hb =>
    cases e
    rcases isD_r rx ry hb with ⟨h1, rfl⟩ | ⟨k, j, h1, h2, rfl⟩
    · exact .inl ⟨h1, q.same r (.bl _)⟩
    · exact .inr ⟨k, j, h1, h2, q.same r (.bl _)⟩
  · cases e
end
section
variable {X : Cx} {S : SI} {W : WX} {a b : Expr} {ma mb : EM} {pos : Pos}
theorem pe_add' (ha : PE X a (TEm X S W ma)) (hb : PE X b (TEm X S W mb)) : PE X (.BinOp a .Add b pos) (TEm X S W <| e2 gAdd ma mb) := pe_2 (fun t u => pe_op (op_add.or (op_add_str.or (op_catA.or op_cat)))) (fun _ _ _ _ => add_r) ha hb
theorem pe_sub' (ha : PE X a (TEm X S W ma)) (hb : PE X b (TEm X S W mb)) : PE X (.BinOp a .Sub b pos) (TEm X S W <| e2 gSub ma mb) := pe_2 (fun t u => pe_op op_sub) (fun _ _ _ _ => sub_r) ha hb
theorem pe_mul' (ha : PE X a (TEm X S W ma)) (hb : PE X b (TEm X S W mb)) : PE X (.BinOp a .Mult b pos) (TEm X S W <| e2 gMul ma mb) := pe_2 (fun t u => pe_op (op_mul.or op_mulW)) (fun _ _ _ _ => mul_r) ha hb
theorem pe_mod' (ha : PE X a (TEm X S W ma)) (hb : PE X b (TEm X S W mb)) : PE X (.BinOp a .Mod b pos) (TEm X S W <| e2 gMod ma mb) := pe_2 (fun t u => pe_op op_mod) (fun _ _ _ _ => mod_r) ha hb
theorem pe_fdv' (ha : PE X a (TEm X S W ma)) (hb : PE X b (TEm X S W mb)) : PE X (.BinOp a .FloorDiv b pos) (TEm X S W <| e2 gFdv ma mb) := pe_2 (fun t u => pe_op (op_fdiv.or op_fdivW)) (fun _ _ _ _ => fdv_r) ha hb
theorem pe_pow' (ha : PE X a (TEm X S W ma)) (hb : PE X b (TEm X S W mb)) : PE X (.BinOp a .Pow b pos) (TEm X S W <| e2 gPow ma mb) := pe_2 (fun t u => pe_op op_pow) (fun _ _ _ _ => pow_r) ha hb
theorem pe_lt' (ha : PE X a (TEm X S W ma)) (hb : PE X b (TEm X S W mb)) : PE X (.Compare a [.Lt] [b] pos) (TEm X S W <| e2 gLt ma mb) := pe_2 (fun t u ha hb => pe_cmpR op_lt ha hb (nomark b)) (fun _ _ _ _ => lt_r) ha hb
theorem pe_le' (ha : PE X a (TEm X S W ma)) (hb : PE X b (TEm X S W mb)) : PE X (.Compare a [.LtE] [b] pos) (TEm X S W <| e2 gLe ma mb) := pe_2 (fun t u ha hb => pe_cmpR op_le ha hb (nomark b)) (fun _ _ _ _ => le_r) ha hb
theorem pe_gt' (ha : PE X a (TEm X S W ma)) (hb : PE X b (TEm X S W mb)) : PE X (.Compare a [.Gt] [b] pos) (TEm X S W <| e2 gGt ma mb) := pe_2 (fun t u ha hb => pe_cmpR op_gt ha hb (nomark b)) (fun _ _ _ _ => gt_r) ha hb
theorem pe_ge' (ha : PE X a (TEm X S W ma)) (hb : PE X b (TEm X S W mb)) : PE X (.Compare a [.GtE] [b] pos) (TEm X S W <| e2 gGe ma mb) := pe_2 (fun t u ha hb => pe_cmpR op_ge ha hb (nomark b)) (fun _ _ _ _ => ge_r) ha hb
theorem pe_eq' (hu : X.A.units + 64 < cLine) (ha : PE X a (TEm X S W ma)) (hb : PE X b (TEm X S W mb)) : PE X (.Compare a [.Eq] [b] pos) (TEm X S W <| e2 gEq ma mb) := pe_2 (fun t u ha hb => pe_cmpR (op_eqD hu) ha hb (nomark b)) (fun _ _ _ _ => eq_r) ha hb
theorem pe_ne' (hu : X.A.units + 64 < cLine) (ha : PE X a (TEm X S W ma)) (hb : PE X b (TEm X S W mb)) : PE X (.Compare a [.NotEq] [b] pos) (TEm X S W <| e2 gNe ma mb) := pe_2 (fun t u ha hb => pe_cmpR (op_neD hu) ha hb (nomark b)) (fun _ _ _ _ => ne_r) ha hb
theorem pe_is' (ha : PE X a (TEm X S W ma)) (hb : PE X b (TEm X S W mb)) : PE X (.Compare a [.Is] [b] pos) (TEm X S W <| e2 gIs ma mb) := pe_2 (fun t u ha hb => pe_cmpR (op_isN.or op_isBl) ha hb (nomark b)) (fun _ _ _ _ => is_r) ha hb
theorem pe_isNot' (ha : PE X a (TEm X S W ma)) (hb : PE X b (TEm X S W mb)) : PE X (.Compare a [.IsNot] [b] pos) (TEm X S W <| e2 gIsNot ma mb) := pe_2 (fun t u ha hb => pe_cmpR (op_notN.or op_notBl) ha hb (nomark b)) (fun _ _ _ _ => isNot_r) ha hb
end
end Kw

set_option Elab.async false
set_option linter.all false
set_option maxRecDepth 100000
namespace Kw
open PySem PySem.Spec PyProof.Rows L2

/-! ### two readings of one piece -/
theorem PEor {X : Cx} {e : Expr} {t t' : TE} (h : PE X e t) (h' : PE X e t') : PE X e (fun σ H Q => t σ H Q ∨ t' σ H Q) := ⟨fun pins s σ H Q I q => q.elim (h.run pins s σ H Q I) (h'.run pins s σ H Q I)⟩
theorem PTor {X : Cx} {e : Expr} {t t' : TT} (h : PT X e t) (h' : PT X e t') : PT X e (fun σ H Q => t σ H Q ∨ t' σ H Q) := ⟨fun pins s σ H Q I q => q.elim (h.run pins s σ H Q I) (h'.run pins s σ H Q I)⟩
def gOr2 (g g' : D → D → Mem → Option D) : D → D → Mem → Option D := fun x y μ => match g x y μ with
  | some d => some d
  | none => g' x y μ
theorem e2_or (g g' : D → D → Mem → Option D) (ma mb : EM) (δ : Sv) (μ : Mem) : e2 (gOr2 g g') ma mb δ μ = e2 g ma mb δ μ ∨ e2 (gOr2 g g') ma mb δ μ = e2 g' ma mb δ μ := by
  unfold e2
  cases ma δ μ with
  | stuck => exact .inl rfl
  | exc x μ' => exact .inl rfl
  | ok x μ1 =>
    show ((mb δ μ1).bind _ = (mb δ μ1).bind _) ∨ ((mb δ μ1).bind _ = (mb δ μ1).bind _)
    cases mb δ μ1 with
    | stuck => exact .inl rfl
    | exc x μ' => exact .inl rfl
    | ok y μ2 =>
      show (oOf (gOr2 g g' x y μ2) μ2 = oOf (g x y μ2) μ2) ∨ (oOf (gOr2 g g' x y μ2) μ2 = oOf (g' x y μ2) μ2)
      unfold gOr2
      cases g x y μ2 with
      | none => exact .inr rfl
      | some d => exact .inl rfl
theorem pe_or2 {X : Cx} {S : SI} {W : WX} {e : Expr} {g g' : D → D → Mem → Option D} {ma mb : EM} (h : PE X e (TEm X S W <| e2 g ma mb)) (h' : PE X e (TEm X S W <| e2 g' ma mb)) : PE X e (TEm X S W <| e2 (gOr2 g g') ma mb) :=
  PEi (PEor h h') fun σ H Q ⟨w, δ, μ, q⟩ => (e2_or g g' ma mb δ μ).elim (fun e => .inl ⟨w, δ, μ, e ▸ q⟩) fun e => .inr ⟨w, δ, μ, e ▸ q⟩
/-- a test by an expression that is a bool -/
def tBl (m : EM) : TM := fun δ μ => (m δ μ).bind fun d μ1 => match d with
  | .bl b => .ok b μ1
  | _ => .stuck
theorem pt_cmp2 {X : Cx} {S : SI} {W : WX} {a b : Expr} {op : CmpOp} {pos : Pos} {ma mb : EM} {r : R2} {g : D → D → Mem → Option D} (ho : OpR X (compareOp op) r) (hm : behindInMarks op b = false) (hr : ∀ x y H Q, rD2 X.K X.mg S.T g x y H Q → r x y H Q) (ha : PE X a (TEm X S W ma)) (hb : PE X b (TEm X S W mb)) :
    PT X (.Compare a [op] [b] pos) (TTm X S W <| tBl (e2 g ma mb)) :=
  PTi (pt_cmpR ho ha hb hm) fun σ H Q ⟨w, δ, μ, h⟩ => ⟨w, δ, μ, (At.bind (R := RelD X.K X.mg) (R' := fun _ (a b : Bool) => a = b) (Q := Q) (o := ma δ μ) (f := fun x μ1 => ((mb δ μ1).bind fun y μ2 => oOf (g x y μ2) μ2).bind fun d μ1 => match d with
      | .bl b => .ok b μ1
      | _ => .stuck) (by unfold tBl e2 at h; cases q : ma δ μ <;> rw [q] at h <;> exact h)).mono fun x H1 ⟨w1, μ1, d, le, rd, h1⟩ => ⟨w1, δ, μ1, (At.bind (R := RelD X.K X.mg) (R' := fun _ (a b : Bool) => a = b) (Q := Q) (o := mb δ μ1) (f := fun y μ2 => (oOf (g d y μ2) μ2).bind fun d μ1 => match d with
      | .bl b => .ok b μ1
      | _ => .stuck) (by cases q : mb δ μ1 <;> rw [q] at h1 <;> exact h1)).mono fun y H2 ⟨w2, μ2, f, le2, re, h2⟩ => by
    cases q : g d f μ2 with
    | none => rw [q] at h2; exact h2.2.2.elim
    | some z =>
      rw [q] at h2
      refine hr _ _ _ _ ⟨w2, μ2, d, f, z, h2.2.1, rd.mono le2, re, q, fun w3 v H3 le3 r3 rz => ?_⟩
      cases z with
      | bl k =>
        cases rz
        exact ⟨k, rfl, h2.2.2 w3 k H3 le3 r3 rfl⟩
      | _ => exact h2.2.2.elim⟩⟩
section
variable {X : Cx} {S : SI} {W : WX} {a b : Expr} {ma mb : EM} {pos : Pos}
theorem pt_lt' (ha : PE X a (TEm X S W ma)) (hb : PE X b (TEm X S W mb)) : PT X (.Compare a [.Lt] [b] pos) (TTm X S W <| tBl (e2 gLt ma mb)) := pt_cmp2 op_lt (nomark b) (fun _ _ _ _ => lt_r) ha hb
theorem pt_le' (ha : PE X a (TEm X S W ma)) (hb : PE X b (TEm X S W mb)) : PT X (.Compare a [.LtE] [b] pos) (TTm X S W <| tBl (e2 gLe ma mb)) := pt_cmp2 op_le (nomark b) (fun _ _ _ _ => le_r) ha hb
theorem pt_gt' (ha : PE X a (TEm X S W ma)) (hb : PE X b (TEm X S W mb)) : PT X (.Compare a [.Gt] [b] pos) (TTm X S W <| tBl (e2 gGt ma mb)) := pt_cmp2 op_gt (nomark b) (fun _ _ _ _ => gt_r) ha hb
theorem pt_ge' (ha : PE X a (TEm X S W ma)) (hb : PE X b (TEm X S W mb)) : PT X (.Compare a [.GtE] [b] pos) (TTm X S W <| tBl (e2 gGe ma mb)) := pt_cmp2 op_ge (nomark b) (fun _ _ _ _ => ge_r) ha hb
theorem pt_eq' (hu : X.A.units + 64 < cLine) (ha : PE X a (TEm X S W ma)) (hb : PE X b (TEm X S W mb)) : PT X (.Compare a [.Eq] [b] pos) (TTm X S W <| tBl (e2 gEq ma mb)) := pt_cmp2 (op_eqD hu) (nomark b) (fun _ _ _ _ => eq_r) ha hb
theorem pt_ne' (hu : X.A.units + 64 < cLine) (ha : PE X a (TEm X S W ma)) (hb : PE X b (TEm X S W mb)) : PT X (.Compare a [.NotEq] [b] pos) (TTm X S W <| tBl (e2 gNe ma mb)) := pt_cmp2 (op_neD hu) (nomark b) (fun _ _ _ _ => ne_r) ha hb
theorem pt_is' (ha : PE X a (TEm X S W ma)) (hb : PE X b (TEm X S W mb)) : PT X (.Compare a [.Is] [b] pos) (TTm X S W <| tBl (e2 gIs ma mb)) := pt_cmp2 (op_isN.or op_isBl) (nomark b) (fun _ _ _ _ => is_r) ha hb
theorem pt_isNot' (ha : PE X a (TEm X S W ma)) (hb : PE X b (TEm X S W mb)) : PT X (.Compare a [.IsNot] [b] pos) (TTm X S W <| tBl (e2 gIsNot ma mb)) := pt_cmp2 (op_notN.or op_notBl) (nomark b) (fun _ _ _ _ => isNot_r) ha hb
end

/-! ### in -/
def flatD : D → Bool
  | .non => true
  | .bl _ => true
  | .int _ => true
  | .str _ => true
  | _ => false
def eqF : D → D → Bool
  | .non, .non => true
  | .bl a, .bl b => a == b
  | .bl a, .int b => (if a then 1 else 0) == b
  | .int a, .bl b => a == (if b then 1 else 0)
  | .int a, .int b => a == b
  | .str a, .str b => a == b
  | _, _ => false
/-- x in y: flat items; or a list of shaped things -/
def inF (x y : D) (μ : Mem) : Option Bool := match seqOf μ y with
  | some ys => if (flatD x && ys.all flatD) = true then some (ys.any fun z => eqF z x) else none
  | none => none
def inDp (x y : D) (μ : Mem) : Option Bool := match pyOf μ x, pyOf μ y with
  | some p, some (.list qs) => if (SeqAt.shaped p && SeqAt.shaped (.list qs)) = true then some (qs.any fun z => PyData.eqv z p) else none
  | _, _ => none
def gInF (x y : D) (μ : Mem) : Option D := (inF x y μ).map .bl
def gNinF (x y : D) (μ : Mem) : Option D := (inF x y μ).map fun b => .bl !b
def gInDp (x y : D) (μ : Mem) : Option D := (inDp x y μ).map .bl
def gNinDp (x y : D) (μ : Mem) : Option D := (inDp x y μ).map fun b => .bl !b
section
variable {K : PySem.W.Frag} {mg : Str → Option Value} {T : List (Addr × Str)} {x y : V} {H : Hp} {Q : VK}
theorem flatD_rel {w : Wd} {d : D} {v : V} (r : RelD K mg w d v) (h : flatD d = true) : flatV v = true := by
  cases r <;> first | rfl | cases h
theorem flatDs_rel {w : Wd} : ∀ {ds : List D} {vs : List V}, RelDs K mg w ds vs → ds.all flatD = true → vs.all flatV = true
  | _, _, .nil, _ => rfl
  | _, _, .cons r t, h => by
    rw [List.all_cons, Bool.and_eq_true] at h
    rw [List.all_cons, Bool.and_eq_true]
    exact ⟨flatD_rel r h.1, flatDs_rel t h.2⟩
theorem eqF_rel {w : Wd} {d e : D} {v u : V} (r : RelD K mg w d v) (r' : RelD K mg w e u) (h : flatD d = true) (h' : flatD e = true) : eqV v u = eqF d e := by
  cases r <;> cases r' <;> first | rfl | cases h | cases h'
theorem eqFs_rel {w : Wd} {e : D} {u : V} (r' : RelD K mg w e u) (h' : flatD e = true) : ∀ {ds : List D} {vs : List V}, RelDs K mg w ds vs → ds.all flatD = true → inV u vs = ds.any fun z => eqF z e
  | _, _, .nil, _ => rfl
  | _, _, .cons r t, h => by
    rw [List.all_cons, Bool.and_eq_true] at h
    have := eqFs_rel r' h' t h.2
    unfold inV at this ⊢
    rw [List.any_cons, List.any_cons, this, eqF_rel r r' h.1 h']
theorem inF_r {w : Wd} {μ : Mem} {dx dy : D} {b : Bool} (r : RelM K mg T w μ H) (rx : RelD K mg w dx x) (ry : RelD K mg w dy y) (e : inF dx dy μ = some b) : ∃ p xs, y = .ref p ∧ (SqL K H p xs ∨ SqT K H p xs) ∧ flatV x = true ∧ xs.all flatV = true ∧ b = inV x xs := by
  unfold inF at e
  split at e
  · next ys hy =>
    split at e
    · next hf =>
      cases e
      rw [Bool.and_eq_true] at hf
      obtain ⟨a, vs, h1, h2, h3⟩ := seqOf_rel r ry hy
      exact ⟨a, vs, h1, h2, flatD_rel rx hf.1, flatDs_rel h3 hf.2, (eqFs_rel rx hf.1 h3 hf.2).symm⟩
    · cases e
  · cases e
theorem inF_ok (h : rD2 K mg T gInF x y H Q) : rIn K false x y H Q := by
  obtain ⟨w, μ, dx, dy, d, r, rx, ry, e, q⟩ := h
  obtain ⟨b, hb, rfl⟩ := Option.map_eq_some_iff.mp e
  obtain ⟨p, xs, h1, h2, h3, h4, rfl⟩ := inF_r r rx ry hb
  exact ⟨p, xs, h1, h2, h3, h4, q.same r (.bl _)⟩
theorem ninF_ok (h : rD2 K mg T gNinF x y H Q) : rIn K true x y H Q := by
  obtain ⟨w, μ, dx, dy, d, r, rx, ry, e, q⟩ := h
  obtain ⟨b, hb, rfl⟩ := Option.map_eq_some_iff.mp e
  obtain ⟨p, xs, h1, h2, h3, h4, rfl⟩ := inF_r r rx ry hb
  exact ⟨p, xs, h1, h2, h3, h4, q.same r (.bl _)⟩
theorem inDp_r {w : Wd} {μ : Mem} {dx dy : D} {b : Bool} (r : RelM K mg T w μ H) (rx : RelD K mg w dx x) (ry : RelD K mg w dy y) (e : inDp dx dy μ = some b) : ∃ d ds, Dp K H x d ∧ Dp K H y (.list ds) ∧ SeqAt.shaped d = true ∧ SeqAt.shaped (.list ds) = true ∧ b = ds.any fun z => PyData.eqv z d := by
  unfold inDp at e
  split at e
  · next p qs hp hq =>
    split at e
    · next hs =>
      cases e
      rw [Bool.and_eq_true] at hs
      exact ⟨p, qs, pyOf_dp r rx hp, pyOf_dp r ry hq, hs.1, hs.2, rfl⟩
    · cases e
  · cases e
theorem inDp_ok (h : rD2 K mg T gInDp x y H Q) : rInD K x y H Q := by
  obtain ⟨w, μ, dx, dy, d, r, rx, ry, e, q⟩ := h
  obtain ⟨b, hb, rfl⟩ := Option.map_eq_some_iff.mp e
  obtain ⟨p, xs, h1, h2, h3, h4, rfl⟩ := inDp_r r rx ry hb
  exact ⟨p, xs, h1, h2, h3, h4, q.same r (.bl _)⟩
theorem ninDp_ok (h : rD2 K mg T gNinDp x y H Q) : rNotInD K x y H Q := by
  obtain ⟨w, μ, dx, dy, d, r, rx, ry, e, q⟩ := h
  obtain ⟨b, hb, rfl⟩ := Option.map_eq_some_iff.mp e
  obtain ⟨p, xs, h1, h2, h3, h4, rfl⟩ := inDp_r r rx ry hb
  exact ⟨p, xs, h1, h2, h3, h4, q.same r (.bl _)⟩
theorem rD2_or {g g' : D → D → Mem → Option D} (h : rD2 K mg T (gOr2 g g') x y H Q) : rD2 K mg T g x y H Q ∨ rD2 K mg T g' x y H Q := by
  obtain ⟨w, μ, dx, dy, d, r, rx, ry, e, q⟩ := h
  unfold gOr2 at e
  split at e
  · next z hz => cases e; exact .inl ⟨w, μ, dx, dy, _, r, rx, ry, hz, q⟩
  · exact .inr ⟨w, μ, dx, dy, _, r, rx, ry, e, q⟩
end
def gIn : D → D → Mem → Option D := gOr2 gInF gInDp
def gNin : D → D → Mem → Option D := gOr2 gNinF gNinDp
section
variable {X : Cx} {S : SI} {W : WX} {a b : Expr} {ma mb : EM} {pos : Pos}
theorem pe_in' (hu : X.A.units + 65 < cLine) (hm : behindInMarks .In b = false) (ha : PE X a (TEm X S W ma)) (hb : PE X b (TEm X S W mb)) : PE X (.Compare a [.In] [b] pos) (TEm X S W <| e2 gIn ma mb) := pe_2 (fun t u ha hb => pe_cmpR (op_in_seq.or (op_inD hu)) ha hb hm) (fun _ _ _ _ h => (rD2_or h).imp inF_ok inDp_ok) ha hb
theorem pt_in' (hu : X.A.units + 65 < cLine) (hm : behindInMarks .In b = false) (ha : PE X a (TEm X S W ma)) (hb : PE X b (TEm X S W mb)) : PT X (.Compare a [.In] [b] pos) (TTm X S W <| tBl (e2 gIn ma mb)) := pt_cmp2 (op_in_seq.or (op_inD hu)) hm (fun _ _ _ _ h => (rD2_or h).imp inF_ok inDp_ok) ha hb
theorem pe_nin' (hu : X.A.units + 65 < cLine) (hm : behindInMarks .NotIn b = false) (ha : PE X a (TEm X S W ma)) (hb : PE X b (TEm X S W mb)) : PE X (.Compare a [.NotIn] [b] pos) (TEm X S W <| e2 gNin ma mb) := pe_2 (fun t u ha hb => pe_cmpR (op_notIn_seq.or (op_notInD hu)) ha hb hm) (fun _ _ _ _ h => (rD2_or h).imp ninF_ok ninDp_ok) ha hb
theorem pt_nin' (hu : X.A.units + 65 < cLine) (hm : behindInMarks .NotIn b = false) (ha : PE X a (TEm X S W ma)) (hb : PE X b (TEm X S W mb)) : PT X (.Compare a [.NotIn] [b] pos) (TTm X S W <| tBl (e2 gNin ma mb)) := pt_cmp2 (op_notIn_seq.or (op_notInD hu)) hm (fun _ _ _ _ h => (rD2_or h).imp ninF_ok ninDp_ok) ha hb
end

/-! ### subscripts, slices -/
def gIx (x y : D) (μ : Mem) : Option D := match y with
  | .int i => match seqOf μ x with
    | some xs => atI xs i
    | none => none
  | _ => none
section
variable {K : PySem.W.Frag} {mg : Str → Option Value} {T : List (Addr × Str)} {x y : V} {H : Hp} {Q : VK}
theorem ix_r (h : rD2 K mg T gIx x y H Q) : rIx K x y H Q := by
  obtain ⟨w, μ, dx, dy, d, r, rx, ry, e, q⟩ := h
  unfold gIx at e
  split at e
  · cases ry
    split at e
    · next xs hx =>
      obtain ⟨a, vs, rfl, h2, h3⟩ := seqOf_rel r rx hx
      obtain ⟨v, hv, rv⟩ := h3.atI e
      rcases h2 with h2 | h2
      · exact .inl ⟨a, vs, _, v, rfl, rfl, h2, hv, q.same r rv⟩
      · exact .inr (.inl ⟨a, vs, _, v, rfl, rfl, h2, hv, q.same r rv⟩)
    · cases e
  · cases e
end
abbrev OM := Sv → Mem → Out (Option Int)
def oNo : OM := fun _ μ => .ok none μ
def oSome (ma : EM) : OM := fun δ μ => (ma δ μ).bind fun x μ1 => match x with
  | .int i => .ok (some i) μ1
  | _ => .stuck
abbrev TOm (X : Cx) (S : SI) (W : WX) (m : OM) : TO := tM X.K X.mg S W (fun _ (a b : Option Int) => a = b) m
def cutD (ds : List D) (lo hi : Option Int) : List D := (ds.drop (HT.sIx ds.length 0 lo)).take (HT.sIx ds.length ds.length hi - HT.sIx ds.length 0 lo)
def gSl (x : D) (lo hi : Option Int) (μ : Mem) : Option D := match x with
  | .tup xs => some (.tup (cutD xs lo hi))
  | x => match lstOf μ x with
    | some xs => some (.lst (cutD xs lo hi))
    | none => none
def eSl (mx : EM) (ml mh : OM) : EM := fun δ μ => (mx δ μ).bind fun x μ1 => (ml δ μ1).bind fun lo μ2 => (mh δ μ2).bind fun hi μ3 => oOf (gSl x lo hi μ3) μ3
section
variable {X : Cx} {S : SI} {W : WX} {a b e : Expr} {ma mb : EM} {ml mh : OM} {pos p2 : Pos} {lo hi : Option Expr}
theorem POi {e : Option Expr} {t t' : TO} (h : PO X e t') (i : ∀ σ H Q, t σ H Q → t' σ H Q) : PO X e t := ⟨fun pins s σ H Q I q => h.run pins s σ H Q I (i _ _ _ q)⟩
theorem po_none' : PO X none (TOm X S W oNo) := POi po_none fun σ H Q ⟨w, δ, μ, h⟩ => h.2.2 w none H (Wd.Le.refl _) h.2.1 rfl
theorem po_some' (ha : PE X a (TEm X S W ma)) : PO X (some a) (TOm X S W <| oSome ma) := POi (po_some ha) fun σ H Q ⟨w, δ, μ, h⟩ => ⟨w, δ, μ, (At.bind h).mono fun x H1 ⟨w1, μ1, d, le, rd, h1⟩ => by
  have h3 := h1.2.2
  split at h3
  · cases rd
    exact ⟨_, rfl, h3 w1 _ H1 (Wd.Le.refl _) h1.2.1 rfl⟩
  · exact h3.elim⟩
theorem pe_ix' (hs : PlainIx b) (ha : PE X a (TEm X S W ma)) (hb : PE X b (TEm X S W mb)) : PE X (.Subscript a b pos) (TEm X S W <| e2 gIx ma mb) := pe_2 (fun t u ha hb => pe_ix ix_seq ha hb hs) (fun _ _ _ _ => ix_r) ha hb
theorem cut_all {xs : List V} {lo hi : Option Int} (h : HT.sIx xs.length 0 lo = 0 ∧ HT.sIx xs.length xs.length hi = xs.length) : L2.cutV xs lo hi = xs := by
  unfold L2.cutV
  rw [h.1, h.2]
  simp
theorem cutD_all {xs : List D} {lo hi : Option Int} (h : HT.sIx xs.length 0 lo = 0 ∧ HT.sIx xs.length xs.length hi = xs.length) : cutD xs lo hi = xs := by
  unfold cutD
  rw [h.1, h.2]
  simp
theorem pe_slice' (he : PE X e (TEm X S W ma)) (hl : PO X lo (TOm X S W ml)) (hu : PO X hi (TOm X S W mh)) : PE X (.Subscript e (.Slice lo hi none p2) pos) (TEm X S W <| eSl ma ml mh) :=
  PEi (pe_slice (sl_list.or sl_tupA) he hl hu) fun σ H Q ⟨w, δ, μ, h⟩ => ⟨w, δ, μ, (At.bind h).mono fun x H1 ⟨w1, μ1, d, le, rd, h1⟩ => ⟨w1, δ, μ1, (At.bind h1).mono fun l H2 ⟨w2, μ2, l', le2, re, h2⟩ =>
    ⟨w2, δ, μ2, (At.bind h2).mono fun u H3 ⟨w3, μ3, u', le3, ru, h3⟩ => by
      cases re; cases ru
      obtain ⟨z, e, q⟩ := h3.opt
      have rx := (rd.mono le2).mono le3
      have r := h3.2.1
      unfold gSl at e
      split at e
      · cases e
        obtain ⟨a, vs, rfl, h4, h5⟩ := tupOf_rel r rx rfl
        refine .inr ⟨a, vs, rfl, h4, fun hh => ?_, fun _ => q.tup r (h5.cutV _ _)⟩
        rw [← h5.length] at hh
        rw [cutD_all hh] at q
        exact q.same r rx
      · split at e
        · next ys hy =>
          cases e
          obtain ⟨a, vs, rfl, h4, h5⟩ := lstOf_rel r rx hy
          exact .inl ⟨a, vs, rfl, h4, q.lst r (h5.cutV _ _)⟩
        · cases e⟩⟩⟩
/-- a list backwards: xs[::0 - 1] -/
def gRevL (x : D) (μ : Mem) : Option D := match lstOf μ x with
  | some xs => some (.lst xs.reverse)
  | none => none
theorem pe_revL1 {te : TE} {p3 : Pos} {st : Expr} (hst : PO X (some st) (fun _ H Q => Q (some (-1)) H)) (he : PE X e te) (hsu : ∀ a b, subscripted (.Slice none none (some st) p3) false (.ref a) (.ref b) = operate [.ref a, .ref b] (getItem (.ref a) (.ref b))) :
    PE X (.Subscript e (.Slice none none (some st) p3) pos) (tRevL X.K te) := by
  refine ⟨fun pins s σ H Q I h => ?_⟩
  refine Subscript_ (thn (he.run pins s σ H _ I h) fun v s1 ⟨x, H1, I1, r1, q1⟩ => ?_)
  obtain ⟨a, xs, ex, hx, q⟩ := q1
  subst ex
  cases r1
  refine wpAny_Slice (thn (po_none.run pins s1 σ H1 (fun o H2 => o = none ∧ H2 = H1) I1 ⟨rfl, rfl⟩) fun vl s2 ⟨l, H2, I2, pl, el, e2⟩ => ?_)
  subst el e2
  refine thn (po_none.run pins s2 σ H2 (fun o H3 => o = none ∧ H3 = H2) I2 ⟨rfl, rfl⟩) fun vu s3 ⟨u, H3, I3, pu, eu, e3⟩ => ?_
  subst eu e3
  refine thn (hst.run pins s3 σ H3 (fun o H4 => o = some (-1) ∧ H4 = H3) I3 ⟨rfl, rfl⟩) fun vs s4 ⟨o, H4, I4, ps, eo, e4⟩ => ?_
  subst eo e4
  have I5 : Inv X pins σ H4 { s4 with heap := s4.heap.push { cls := .type "slice", data := .fields #[vl, vu, vs] } } := I4.kept (t' := s4.toks) fun b ob q => Heap.get?_push_of_some _ q
  obtain ⟨its, r, ht, hz⟩ := I5.list hx
  have hlen := r.length
  refine tail_any (ops := [.ref a, .ref s4.heap.objs.size]) ht.isList.typeIs (PySem.slot_list_getitem.lookup) ?_ (hsu _ _)
  refine wpAny_getItem_list_slice ht.isList (Heap.IsSliceOf.new _ vl vu vs) pl pu ps (by decide) ?_ (by rw [List.size_toArray]; omega)
  rw [PySem.W.krv_pick]
  refine ⟨.ref _, _, I5.laid (t' := s4.toks) (o := .lst xs.reverse) (fun b ob q => Heap.get?_push_of_some _ q) (Nat.le_refl _) ?_, rfl, q _ (I5.hok.fresh (Nat.le_refl _))⟩
  exact ⟨by rw [List.length_reverse]; exact hz, _, 0, r.reverse, Heap.get?_push_size _ rfl⟩
theorem po_neg1 {k k' : Nat} {p1 p2 p3 : Pos} : PO X (some (.BinOp (.Constant (.int 0) k p1) .Sub (.Constant (.int 1) k' p2) p3)) (fun _ H Q => Q (some (-1)) H) :=
  POi (po_some (pe_op op_sub pe_int pe_int)) fun σ H Q h => ⟨0, 1, rfl, rfl, -1, rfl, h⟩
theorem pe_revL' {k k' : Nat} {p1 p2 p3 p4 : Pos} (he : PE X e (TEm X S W ma)) : PE X (.Subscript e (.Slice none none (some (.BinOp (.Constant (.int 0) k p1) .Sub (.Constant (.int 1) k' p2) p3)) p4) pos) (TEm X S W <| e1 gRevL ma) :=
  pe_1 (r := fun x H1 Q => ∃ a xs, x = .ref a ∧ SqL X.K H1 a xs ∧ ∀ p, H1 p = none → Q (.ref p) (upd H1 p (.lst xs.reverse))) (fun t ht => pe_revL1 po_neg1 ht (fun _ _ => by with_unfolding_all rfl)) (fun x H Q ⟨w, μ, dx, d, r, rx, e, q⟩ => by
    unfold gRevL at e
    split at e
    · next xs hx =>
      cases e
      obtain ⟨a, vs, h1, h2, h3⟩ := lstOf_rel r rx hx
      exact ⟨a, vs, h1, h2, q.lst r h3.reverse⟩
    · cases e) he
end
end Kw

set_option Elab.async false
set_option linter.all false
set_option maxRecDepth 100000
namespace Kw
open PySem PySem.Spec PyProof.Rows L2

/-! ### built-in functions -/
def gLen : List D → Mem → Option D
  | [.str y], _ => if y.length ≤ sizeLine then some (.int y.length) else none
  | [.loc l], μ => match μ[l]? with
    | some (.lst xs) => some (.int xs.length)
    | some (.dct kvs) => some (.int kvs.length)
    | _ => none
  | [x], μ => match seqOf μ x with
    | some xs => some (.int xs.length)
    | none => none
  | _, _ => none
def gAbs : List D → Mem → Option D
  | [.int i], _ => some (.int (if i < 0 then -i else i))
  | _, _ => none
def gInt : List D → Mem → Option D
  | [.int i], _ => some (.int i)
  | [.bl k], _ => some (.int (if k then 1 else 0))
  | _, _ => none
def gTuple : List D → Mem → Option D
  | [.tup xs], _ => some (.tup xs)
  | [x], μ => match lstOf μ x with
    | some xs => some (.tup xs)
    | none => none
  | _, _ => none
def gList : List D → Mem → Option D
  | [x], μ => match seqOf μ x with
    | some xs => some (.lst xs)
    | none => none
  | _, _ => none
def boolsOf : List D → Option (List Bool)
  | [] => some []
  | .bl b :: ds => match boolsOf ds with
    | some bs => some (b :: bs)
    | none => none
  | _ => none
def intsOf : List D → Option (List Int)
  | [] => some []
  | .int b :: ds => match intsOf ds with
    | some bs => some (b :: bs)
    | none => none
  | _ => none
def gAll : List D → Mem → Option D
  | [x], μ => match lstOf μ x with
    | some xs => match boolsOf xs with
      | some bs => some (.bl (bs.all id))
      | none => none
    | none => none
  | _, _ => none
def gAny : List D → Mem → Option D
  | [x], μ => match lstOf μ x with
    | some xs => match boolsOf xs with
      | some bs => some (.bl (bs.any id))
      | none => none
    | none => none
  | _, _ => none
def gSum : List D → Mem → Option D
  | [x], μ => match lstOf μ x with
    | some xs => match intsOf xs with
      | some bs => some (.int bs.sum)
      | none => none
    | none => none
  | _, _ => none
def gMax2 : List D → Mem → Option D
  | [.int i, .int j], _ => some (.int (if j > i then j else i))
  | _, _ => none
def gMin2 : List D → Mem → Option D
  | [.int i, .int j], _ => some (.int (if j < i then j else i))
  | _, _ => none
/-- the names of the types that isinstance is asked about -/
def tyS (μ : Mem) : D → Option String
  | .non => some "NoneType"
  | .bl _ => some "bool"
  | .int _ => some "int"
  | .str _ => some "str"
  | .tup _ => some "tuple"
  | .lst _ => some "list"
  | .scr _ => some "list"
  | .loc l => match μ[l]? with
    | some (.lst _) => some "list"
    | some (.dct _) => some "dict"
    | _ => none
  | _ => none
def tyL : List String := ["int", "bool", "str", "NoneType", "list", "tuple", "dict"]
def tyB (a b : String) : Bool := a == b || (a == "bool" && b == "int")
theorem kitB_tab : ∀ a ∈ tyL, ∀ b ∈ tyL, kitB a b = some (tyB a b) := by decide +kernel
def gIsi (ns : List String) (x : D) (μ : Mem) : Option D := match tyS μ x with
  | some a => some (.bl (ns.any (tyB a)))
  | none => none
def gRepr : List D → Mem → Option D
  | [x], μ => match pyOf μ x with
    | some p => if p.showable = true ∧ p.hasDict = false ∧ p.depth ≤ 100 ∧ p.shown.length ≤ sizeLine then some (.str p.shown) else none
    | none => none
  | _, _ => none
section
variable {K : PySem.W.Frag} {mg : Str → Option Value} {T : List (Addr × Str)} {xs : List V} {x y : V} {H : Hp} {Q : VK}
theorem RelDs.one1 {w : Wd} {d : D} (r : RelDs K mg w [d] xs) : ∃ x, xs = [x] ∧ RelD K mg w d x := by
  cases r with
  | cons r t => cases t; exact ⟨_, rfl, r⟩
theorem RelDs.two2 {w : Wd} {d e : D} (r : RelDs K mg w [d, e] xs) : ∃ x y, xs = [x, y] ∧ RelD K mg w d x ∧ RelD K mg w e y := by
  cases r with
  | cons r t =>
    obtain ⟨y, rfl, h⟩ := t.one1
    exact ⟨_, _, rfl, r, h⟩
theorem len_r (h : rDs K mg T gLen xs H Q) : (∃ p ys, xs = [.ref p] ∧ (SqL K H p ys ∨ SqT K H p ys) ∧ Q (.int ys.length) H) ∨ (∃ z, xs = [.str z] ∧ z.length ≤ sizeLine ∧ Q (.int z.length) H) ∨ ∃ a kvs, xs = [V.ref a] ∧ H a = some (.dK kvs) ∧ Q (.int kvs.length) H := by
  obtain ⟨w, μ, ds, d, r, rs, e, q⟩ := h
  unfold gLen at e
  split at e
  · obtain ⟨x, rfl, rx⟩ := rs.one1
    cases rx
    split at e
    · next hl => cases e; exact .inr (.inl ⟨_, rfl, hl, q.same r (.int _)⟩)
    · cases e
  · obtain ⟨x, rfl, rx⟩ := rs.one1
    cases rx
    split at e
    · next ys hy =>
      cases e
      obtain ⟨vs, h1, h2⟩ := r.lst hy
      exact .inl ⟨_, vs, rfl, .inl (.inl (.inl h1)), by rw [← h2.length]; exact q.same r (.int _)⟩
    · next kvs hy =>
      cases e
      have z := (r.ob _ _ hy).1
      generalize eo : H (w.ρ _) = o at z
      cases z with
      | @dct _ gs hk hv =>
        have : kvs.length = gs.length := by have := congrArg List.length hk; simpa using this
        exact .inr (.inr ⟨_, gs, rfl, eo, by rw [← this]; exact q.same r (.int _)⟩)
    · cases e
  · obtain ⟨x, rfl, rx⟩ := rs.one1
    split at e
    · next ys hy =>
      cases e
      obtain ⟨a, vs, rfl, h2, h3⟩ := seqOf_rel r rx hy
      exact .inl ⟨a, vs, rfl, h2, by rw [← h3.length]; exact q.same r (.int _)⟩
    · cases e
  · cases e
theorem abs_r (h : rDs K mg T gAbs xs H Q) : ∃ i, xs = [.int i] ∧ Q (.int (if i < 0 then -i else i)) H := by
  obtain ⟨w, μ, ds, d, r, rs, e, q⟩ := h
  unfold gAbs at e
  split at e
  · obtain ⟨x, rfl, rx⟩ := rs.one1
    cases rx; cases e
    exact ⟨_, rfl, q.same r (.int _)⟩
  · cases e
theorem int_r (h : rDs K mg T gInt xs H Q) : (∃ i, xs = [.int i] ∧ Q (.int i) H) ∨ ∃ k, xs = [.bl k] ∧ Q (.int (if k then 1 else 0)) H := by
  obtain ⟨w, μ, ds, d, r, rs, e, q⟩ := h
  unfold gInt at e
  split at e
  · obtain ⟨x, rfl, rx⟩ := rs.one1
    cases rx; cases e
    exact .inl ⟨_, rfl, q.same r (.int _)⟩
  · obtain ⟨x, rfl, rx⟩ := rs.one1
    cases rx; cases e
    exact .inr ⟨_, rfl, q.same r (.int _)⟩
  · cases e
theorem tuple_r (h : rDs K mg T gTuple xs H Q) : ∃ p ys, xs = [.ref p] ∧ ((SqL K H p ys ∧ ∀ l, H l = none → Q (.ref l) (upd H l (.tup ys))) ∨ (SqT K H p ys ∧ Q (.ref p) H)) := by
  obtain ⟨w, μ, ds, d, r, rs, e, q⟩ := h
  unfold gTuple at e
  split at e
  · obtain ⟨x, rfl, rx⟩ := rs.one1
    cases e
    obtain ⟨a, vs, rfl, h2, h3⟩ := tupOf_rel r rx rfl
    exact ⟨a, vs, rfl, .inr ⟨h2, q.same r rx⟩⟩
  · obtain ⟨x, rfl, rx⟩ := rs.one1
    split at e
    · next ys hy =>
      cases e
      obtain ⟨a, vs, rfl, h2, h3⟩ := lstOf_rel r rx hy
      exact ⟨a, vs, rfl, .inl ⟨h2, q.tup r h3⟩⟩
    · cases e
  · cases e
theorem list_r (h : rDs K mg T gList xs H Q) : ∃ p ys, xs = [.ref p] ∧ (SqL K H p ys ∨ SqT K H p ys) ∧ ∀ l, H l = none → Q (.ref l) (upd H l (.lst ys)) := by
  obtain ⟨w, μ, ds, d, r, rs, e, q⟩ := h
  unfold gList at e
  split at e
  · obtain ⟨x, rfl, rx⟩ := rs.one1
    split at e
    · next ys hy =>
      cases e
      obtain ⟨a, vs, rfl, h2, h3⟩ := seqOf_rel r rx hy
      exact ⟨a, vs, rfl, h2, q.lst r h3⟩
    · cases e
  · cases e
theorem bools_r {w : Wd} : ∀ {ds : List D} {vs : List V} {bs : List Bool}, RelDs K mg w ds vs → boolsOf ds = some bs → vs = bs.map V.bl
  | [], _, _, .nil, h => by cases h; rfl
  | d :: ds, _, bs, .cons r t, h => by
    unfold boolsOf at h
    split at h
    · next e => cases e
    · next b ds' e =>
      cases e
      cases r
      split at h
      · next cs hc => cases h; rw [bools_r t hc]; rfl
      · cases h
    · cases h
theorem ints_r {w : Wd} : ∀ {ds : List D} {vs : List V} {bs : List Int}, RelDs K mg w ds vs → intsOf ds = some bs → vs = bs.map V.int
  | [], _, _, .nil, h => by cases h; rfl
  | d :: ds, _, bs, .cons r t, h => by
    unfold intsOf at h
    split at h
    · next e => cases e
    · next b ds' e =>
      cases e
      cases r
      split at h
      · next cs hc => cases h; rw [ints_r t hc]; rfl
      · cases h
    · cases h
theorem all_r (h : rDs K mg T gAll xs H Q) : rAll K xs H Q := by
  obtain ⟨w, μ, ds, d, r, rs, e, q⟩ := h
  unfold gAll at e
  split at e
  · obtain ⟨x, rfl, rx⟩ := rs.one1
    split at e
    · next ys hy =>
      obtain ⟨a, vs, rfl, h2, h3⟩ := lstOf_rel r rx hy
      split at e
      · next bs hb => cases e; exact ⟨a, bs, rfl, by rw [← bools_r h3 hb]; exact h2, q.same r (.bl _)⟩
      · cases e
    · cases e
  · cases e
theorem any_r (h : rDs K mg T gAny xs H Q) : rAny K xs H Q := by
  obtain ⟨w, μ, ds, d, r, rs, e, q⟩ := h
  unfold gAny at e
  split at e
  · obtain ⟨x, rfl, rx⟩ := rs.one1
    split at e
    · next ys hy =>
      obtain ⟨a, vs, rfl, h2, h3⟩ := lstOf_rel r rx hy
      split at e
      · next bs hb => cases e; exact ⟨a, bs, rfl, by rw [← bools_r h3 hb]; exact h2, q.same r (.bl _)⟩
      · cases e
    · cases e
  · cases e
theorem sum_r (h : rDs K mg T gSum xs H Q) : rSum K xs H Q := by
  obtain ⟨w, μ, ds, d, r, rs, e, q⟩ := h
  unfold gSum at e
  split at e
  · obtain ⟨x, rfl, rx⟩ := rs.one1
    split at e
    · next ys hy =>
      obtain ⟨a, vs, rfl, h2, h3⟩ := lstOf_rel r rx hy
      split at e
      · next bs hb => cases e; exact ⟨a, bs, rfl, by rw [← ints_r h3 hb]; exact h2, q.same r (.int _)⟩
      · cases e
    · cases e
  · cases e
theorem max2_r (h : rDs K mg T gMax2 xs H Q) : ∃ i j, xs = [.int i, .int j] ∧ Q (.int (if j > i then j else i)) H := by
  obtain ⟨w, μ, ds, d, r, rs, e, q⟩ := h
  unfold gMax2 at e
  split at e
  · obtain ⟨x, y, rfl, rx, ry⟩ := rs.two2
    cases rx; cases ry; cases e
    exact ⟨_, _, rfl, q.same r (.int _)⟩
  · cases e
theorem min2_r (h : rDs K mg T gMin2 xs H Q) : ∃ i j, xs = [.int i, .int j] ∧ Q (.int (if j < i then j else i)) H := by
  obtain ⟨w, μ, ds, d, r, rs, e, q⟩ := h
  unfold gMin2 at e
  split at e
  · obtain ⟨x, y, rfl, rx, ry⟩ := rs.two2
    cases rx; cases ry; cases e
    exact ⟨_, _, rfl, q.same r (.int _)⟩
  · cases e
theorem sqT_ty {a : Addr} {vs : List V} (h : SqT K H a vs) : TyX K H (.ref a) (.type "tuple") := by
  rcases h with (h | ⟨o, h⟩) | ⟨o, its, n, h, hc, _⟩
  · exact .base (.tup h)
  · exact .fTuple h
  · exact .kTuple h hc
theorem sqL_ty {a : Addr} {vs : List V} (h : SqL K H a vs) : TyX K H (.ref a) (.type "list") := by
  rcases h with (h | ⟨o, h⟩) | ⟨o, its, n, h, hc, _⟩
  · exact .base (.lst h)
  · exact .base (.frz h)
  · exact .kList h hc
theorem tyS_rel {w : Wd} {μ : Mem} {d : D} {n : String} (r : RelM K mg T w μ H) (rd : RelD K mg w d x) (h : tyS μ d = some n) : TyX K H x (.type n) ∧ n ∈ tyL := by
  cases rd with
  | non => cases h; exact ⟨.base .non, by decide⟩
  | bl b => cases h; exact ⟨.base (.bl b), by decide⟩
  | int i => cases h; exact ⟨.base (.int i), by decide⟩
  | str y => cases h; exact ⟨.base (.str y), by decide⟩
  | tup e rs => cases h; exact ⟨sqT_ty (sqT_mono r.φ e), by decide⟩
  | lst e rs => cases h; exact ⟨.base (.lst (r.φ _ _ e)), by decide⟩
  | scr e rs => cases h; exact ⟨sqL_ty (scr_H r e), by decide⟩
  | @loc l hl =>
    simp only [tyS] at h
    split at h
    · next ys hy =>
      cases h
      obtain ⟨vs, h1, h2⟩ := r.lst hy
      exact ⟨.base (.lst h1), by decide⟩
    · next kvs hy =>
      cases h
      have z := (r.ob _ _ hy).1
      generalize eo : H (w.ρ _) = o at z
      cases z with
      | @dct _ gs hk hv => exact ⟨.base (.dK eo), by decide⟩
    · cases h
  | _ => cases h
theorem kitAny_of {a : String} (ha : a ∈ tyL) : ∀ (ns : List String), (∀ n ∈ ns, n ∈ tyL) → PySem.W.kitAny K (.type a) (ns.map Value.type) = some (ns.any (tyB a))
  | [], _ => rfl
  | n :: ns, h => by
    have h1 := kit_ty (K := K) (kitB_tab a ha n (h n List.mem_cons_self))
    have h2 := kitAny_of ha ns (fun m hm => h m (List.mem_cons_of_mem _ hm))
    refine kitAny_cons h1 (fun hb => ?_) fun hb => ?_
    · rw [h2, List.any_cons, hb, Bool.false_or]
    · rw [List.any_cons, hb, Bool.true_or]
end
def eIsi (ns : List String) (ma : EM) : EM := e1 (gIsi ns) ma
section
variable {X : Cx} {S : SI} {W : WX} {a b e o : Expr} {es : List Expr} {ma mb mo : EM} {mr : AM} {pos p p' apos : Pos} {x : Str} {k : Nat}
theorem Paired.map_ty : ∀ ns : List String, Paired ClsV (ns.map V.ty) (ns.map Value.type)
  | [] => .nil
  | n :: ns => .cons (.ty n) (Paired.map_ty ns)
/-- isinstance(a, T) -/
theorem pe_isi1 {n : String} (hn : n ∈ tyL) (hg : Gl X "isinstance") (hm : X.mg "isinstance" = none) (hT : PE X b (tC (.ty n))) (ha : PE X a (TEm X S W ma))
    (he : starEach (a :: [b]) X.env = (false, eval a X.env) :: starEach [b] X.env := by rfl) (hpl : (backTo pos (starEach [b] X.env)).any (·.1) = false := by rfl) (he2 : starEach (b :: []) X.env = (false, eval b X.env) :: starEach [] X.env := by rfl) :
    PE X (.Call (.Name "isinstance" p) [a, b] [] pos) (TEm X S W <| e1 (gIsi [n]) ma) :=
  PEi (pe_callB call_isi hg hm (by decide +kernel) (pa_cons ha (pa_cons hT pa_nil he2) he) (by decide) (by decide) he hpl) fun σ H Q ⟨w, δ, μ, h⟩ => ⟨w, δ, μ, (At.bind h).mono fun x H1 ⟨w1, μ1, d, le, rd, h1⟩ => by
    obtain ⟨z, e, q⟩ := h1.opt
    unfold gIsi at e
    split at e
    · next ty hty =>
      cases e
      obtain ⟨t1, t2⟩ := tyS_rel h1.2.1 rd hty
      refine ⟨x, .ty n, _, .type n, tyB ty n, rfl, .ty n, t1, kit_ty (kitB_tab ty t2 n hn), ?_⟩
      have := q.same h1.2.1 (.bl _)
      simpa using this
    · cases e⟩
/-- isinstance(a, (T, U)) -/
theorem pe_isiT {ns : List String} (hn : ∀ n ∈ ns, n ∈ tyL) (hl : ns.length ≤ sizeLine) (hg : Gl X "isinstance") (hm : X.mg "isinstance" = none) (hT : PA X es (fun _ H Q => Q (ns.map V.ty) H)) (ha : PE X a (TEm X S W ma))
    (he : starEach (a :: [.Tuple es k p']) X.env = (false, eval a X.env) :: starEach [.Tuple es k p'] X.env := by rfl) (hpl : (backTo pos (starEach [.Tuple es k p'] X.env)).any (·.1) = false := by rfl) (he2 : starEach (.Tuple es k p' :: []) X.env = (false, eval (.Tuple es k p') X.env) :: starEach [] X.env := by rfl) :
    PE X (.Call (.Name "isinstance" p) [a, .Tuple es k p'] [] pos) (TEm X S W <| e1 (gIsi ns) ma) :=
  PEi (pe_callB call_isiT hg hm (by decide +kernel) (pa_cons ha (pa_cons (pe_tup hT) pa_nil he2) he) (by decide) (by decide) he hpl) fun σ H Q ⟨w, δ, μ, h⟩ => ⟨w, δ, μ, (At.bind h).mono fun x H1 ⟨w1, μ1, d, le, rd, h1⟩ => by
    obtain ⟨z, e, q⟩ := h1.opt
    unfold gIsi at e
    split at e
    · next ty hty =>
      cases e
      have r := h1.2.1
      refine ⟨by rw [List.length_map]; exact hl, fun p hp => ?_⟩
      have r' := r.lay hp (o := .tup (ns.map V.ty)) (fun _ => nofun)
      have le' := r.lay_le hp (.tup (ns.map V.ty))
      obtain ⟨t1, t2⟩ := tyS_rel r' (rd.mono le') hty
      exact ⟨x, p, ns.map V.ty, _, ns.map Value.type, _, rfl, upd_same, Paired.map_ty ns, t1, kitAny_of t2 ns hn, q _ _ _ le' r' (.bl _)⟩
    · cases e⟩
theorem pe_len' (hg : Gl X "len") (hm : X.mg "len" = none) (ha : PA X (e :: es) (TAm X S W mr)) (he : starEach (e :: es) X.env = (false, eval e X.env) :: starEach es X.env := by rfl) (hpl : (backTo pos (starEach es X.env)).any (·.1) = false := by rfl) :
    PE X (.Call (.Name "len" p) (e :: es) [] pos) (TEm X S W <| eAs gLen mr) := pe_As (fun t h => pe_callB (call_len_seq.or (call_len_str.or call_lenD)) hg hm PySem.boot_len h (by decide) (by decide) he hpl) (fun _ _ _ => len_r) ha
theorem pe_abs' (hg : Gl X "abs") (hm : X.mg "abs" = none) (ha : PA X (e :: es) (TAm X S W mr)) (he : starEach (e :: es) X.env = (false, eval e X.env) :: starEach es X.env := by rfl) (hpl : (backTo pos (starEach es X.env)).any (·.1) = false := by rfl) :
    PE X (.Call (.Name "abs" p) (e :: es) [] pos) (TEm X S W <| eAs gAbs mr) := pe_As (fun t h => pe_callB call_abs hg hm (by decide +kernel) h (by decide) (by decide) he hpl) (fun _ _ _ => abs_r) ha
theorem pe_int' (hg : Gl X "int") (hm : X.mg "int" = none) (ha : PA X (e :: es) (TAm X S W mr)) (he : starEach (e :: es) X.env = (false, eval e X.env) :: starEach es X.env := by rfl) (hpl : (backTo pos (starEach es X.env)).any (·.1) = false := by rfl) :
    PE X (.Call (.Name "int" p) (e :: es) [] pos) (TEm X S W <| eAs gInt mr) := pe_As (fun t h => pe_callTy call_int1 hg hm (by decide +kernel) h (by decide) (by decide) he hpl) (fun _ _ _ => int_r) ha
theorem pe_tuple' (hg : Gl X "tuple") (hm : X.mg "tuple" = none) (ha : PA X (e :: es) (TAm X S W mr)) (he : starEach (e :: es) X.env = (false, eval e X.env) :: starEach es X.env := by rfl) (hpl : (backTo pos (starEach es X.env)).any (·.1) = false := by rfl) :
    PE X (.Call (.Name "tuple" p) (e :: es) [] pos) (TEm X S W <| eAs gTuple mr) := pe_As (fun t h => pe_callTy call_tuple_of hg hm (by decide +kernel) h (by decide) (by decide) he hpl) (fun _ _ _ => tuple_r) ha
theorem pe_list' (hg : Gl X "list") (hm : X.mg "list" = none) (ha : PA X (e :: es) (TAm X S W mr)) (he : starEach (e :: es) X.env = (false, eval e X.env) :: starEach es X.env := by rfl) (hpl : (backTo pos (starEach es X.env)).any (·.1) = false := by rfl) :
    PE X (.Call (.Name "list" p) (e :: es) [] pos) (TEm X S W <| eAs gList mr) := pe_As (fun t h => pe_callTy call_list_of hg hm (by decide +kernel) h (by decide) (by decide) he hpl) (fun _ _ _ => list_r) ha
theorem pe_all' (hc : X.calm = true) (hg : Gl X "all") (hm : X.mg "all" = none) (ha : PA X (e :: es) (TAm X S W mr)) (he : starEach (e :: es) X.env = (false, eval e X.env) :: starEach es X.env := by rfl) (hpl : (backTo pos (starEach es X.env)).any (·.1) = false := by rfl) :
    PE X (.Call (.Name "all" p) (e :: es) [] pos) (TEm X S W <| eAs gAll mr) := pe_As (fun t h => pe_callB (cr_all hc) hg hm (by decide +kernel) h (by decide) (by decide) he hpl) (fun _ _ _ => all_r) ha
theorem pe_any' (hc : X.calm = true) (hg : Gl X "any") (hm : X.mg "any" = none) (ha : PA X (e :: es) (TAm X S W mr)) (he : starEach (e :: es) X.env = (false, eval e X.env) :: starEach es X.env := by rfl) (hpl : (backTo pos (starEach es X.env)).any (·.1) = false := by rfl) :
    PE X (.Call (.Name "any" p) (e :: es) [] pos) (TEm X S W <| eAs gAny mr) := pe_As (fun t h => pe_callB (cr_any hc) hg hm (by decide +kernel) h (by decide) (by decide) he hpl) (fun _ _ _ => any_r) ha
theorem pe_sum' (hc : X.calm = true) (hg : Gl X "sum") (hm : X.mg "sum" = none) (ha : PA X (e :: es) (TAm X S W mr)) (he : starEach (e :: es) X.env = (false, eval e X.env) :: starEach es X.env := by rfl) (hpl : (backTo pos (starEach es X.env)).any (·.1) = false := by rfl) :
    PE X (.Call (.Name "sum" p) (e :: es) [] pos) (TEm X S W <| eAs gSum mr) := pe_As (fun t h => pe_callB (cr_sum hc) hg hm (by decide +kernel) h (by decide) (by decide) he hpl) (fun _ _ _ => sum_r) ha
theorem pe_max2' (hc : X.calm = true) (hg : Gl X "max") (hm : X.mg "max" = none) (ha : PA X (e :: es) (TAm X S W mr)) (he : starEach (e :: es) X.env = (false, eval e X.env) :: starEach es X.env := by rfl) (hpl : (backTo pos (starEach es X.env)).any (·.1) = false := by rfl) :
    PE X (.Call (.Name "max" p) (e :: es) [] pos) (TEm X S W <| eAs gMax2 mr) := pe_As (fun t h => pe_callB (call_max2 hc) hg hm (by decide +kernel) h (by decide) (by decide) he hpl) (fun _ _ _ => max2_r) ha
theorem pe_min2' (hc : X.calm = true) (hg : Gl X "min") (hm : X.mg "min" = none) (ha : PA X (e :: es) (TAm X S W mr)) (he : starEach (e :: es) X.env = (false, eval e X.env) :: starEach es X.env := by rfl) (hpl : (backTo pos (starEach es X.env)).any (·.1) = false := by rfl) :
    PE X (.Call (.Name "min" p) (e :: es) [] pos) (TEm X S W <| eAs gMin2 mr) := pe_As (fun t h => pe_callB (call_min2 hc) hg hm (by decide +kernel) h (by decide) (by decide) he hpl) (fun _ _ _ => min2_r) ha
theorem Dp.deep {K : PySem.W.Frag} {H : Hp} {d : PyData} {v : V} (h : Dp K H v d) : True := trivial
/-- repr: where no guard stands above -/
theorem call_repr_py (hgd : X.A.guards = some []) (hu : X.A.units + 200 < cLine) : CallR X (.builtin "repr") (fun xs H Q => ∃ x d, xs = [x] ∧ Dp X.K H x d ∧ d.showable = true ∧ d.hasDict = false ∧ d.depth ≤ 100 ∧ d.shown.length ≤ sizeLine ∧ Q (.str d.shown) H) := by
  intro pins s σ H xs us Q I r h
  obtain ⟨x, d, rfl, dp, hs, hd, h1, h2, q⟩ := h
  obtain ⟨u, rfl, rx⟩ := vals1 r
  cases dp with
  | non => cases rx; exact PySem.P.repr_of_none ⟨.str _, H, I.tok _, ⟨_, rfl⟩, q⟩
  | bl b =>
    cases rx
    exact PySem.P.repr_of_bool ⟨.str _, H, I.tok _, ⟨_, rfl⟩, by cases b <;> exact q⟩
  | int i =>
    obtain ⟨t, rfl⟩ := rx
    exact PySem.P.repr_of_int (of_decide_eq_true hs) ⟨.str _, H, I.tok _, ⟨_, rfl⟩, q⟩
  | str y =>
    obtain ⟨t, rfl⟩ := rx
    exact PySem.P.repr_of_str ⟨.str _, H, I.tok _, ⟨_, rfl⟩, q⟩ h2
  | @lst a ys ds e es =>
    cases rx
    obtain ⟨as, rd⟩ := Dp.reads I _ _ _ (.lst e es) (show RelV (.ref a) (.ref a) from rfl)
    exact repr_of_reads' rd hs (PyData.noDict_hsm hd) hgd (by omega) (fun _ _ e => e) (fun h' u tk hk => ⟨.str _, H, I.kept hk, ⟨_, rfl⟩, q⟩) h2
  | @tup a ys ds e es =>
    cases rx
    obtain ⟨as, rd⟩ := Dp.reads I _ _ _ (.tup e es) (show RelV (.ref a) (.ref a) from rfl)
    exact repr_of_reads' rd hs (PyData.noDict_hsm hd) hgd (by omega) (fun _ _ e => e) (fun h' u tk hk => ⟨.str _, H, I.kept hk, ⟨_, rfl⟩, q⟩) h2
theorem pe_repr' (hgd : X.A.guards = some []) (hu : X.A.units + 200 < cLine) (hg : Gl X "repr") (hm : X.mg "repr" = none) (ha : PA X (e :: es) (TAm X S W mr)) (he : starEach (e :: es) X.env = (false, eval e X.env) :: starEach es X.env := by rfl) (hpl : (backTo pos (starEach es X.env)).any (·.1) = false := by rfl) :
    PE X (.Call (.Name "repr" p) (e :: es) [] pos) (TEm X S W <| eAs gRepr mr) := pe_As (fun t h => pe_callB (call_repr_py hgd hu) hg hm (by decide +kernel) h (by decide) (by decide) he hpl) (fun xs H Q ⟨w, μ, ds, d, r, rs, e, q⟩ => by
    unfold gRepr at e
    split at e
    · obtain ⟨x, rfl, rx⟩ := rs.one1
      split at e
      · next p' hp =>
        split at e
        · next hh => cases e; exact ⟨x, p', rfl, pyOf_dp r rx hp, hh.1, hh.2.1, hh.2.2.1, hh.2.2.2, q.same r (.str _)⟩
        · cases e
      · cases e
    · cases e) ha
end

/-! ### methods of lists -/
def eMtL (g : D → List D → Mem → Option (D × Mem)) (mo : EM) (ma : AM) : EM := fun δ μ => (mo δ μ).bind fun x μ1 => if (lstX μ1 x).isSome = true then (ma δ μ1).bind fun xs μ2 => oOfM (g x xs μ2) else .stuck
def gAppend : D → List D → Mem → Option (D × Mem)
  | .loc l, [y], μ => match μ[l]? with
    | some (.lst xs) => if xs.length < sizeLine then some (.non, μ.set l (.lst (xs ++ [y]))) else none
    | _ => none
  | _, _, _ => none
def gExtend : D → List D → Mem → Option (D × Mem)
  | .loc l, [y], μ => match μ[l]?, lstX μ y with
    | some (.lst xs), some ys => if xs.length + ys.length ≤ sizeLine then some (.non, μ.set l (.lst (xs ++ ys))) else none
    | _, _ => none
  | _, _, _ => none
def gPop : D → List D → Mem → Option (D × Mem)
  | .loc l, [], μ => match μ[l]? with
    | some (.lst xs) => match xs[xs.length - 1]? with
      | some y => some (y, μ.set l (.lst xs.dropLast))
      | none => none
    | _ => none
  | .loc l, [.int i], μ => match μ[l]? with
    | some (.lst xs) => if -9223372036854775808 ≤ i ∧ i < 9223372036854775808 then match seqIndex? i xs.length with
      | some k => match xs[k]? with
        | some y => some (y, μ.set l (.lst (xs.eraseIdx k)))
        | none => none
      | none => none
      else none
    | _ => none
  | _, _, _ => none
section
variable {K : PySem.W.Frag} {mg : Str → Option Value} {T : List (Addr × Str)} {xs : List V} {x y : V} {H : Hp} {Q : VK}
theorem Then1.write {w : Wd} {μ : Mem} {l : Nat} {b b' : Ob} {o' : HO} {d : D} {v : V} (q : Then1 K mg T w (μ.set l b') Q d) (r : RelM K mg T w μ H) (hl : μ[l]? = some b) (hb : RelOb K mg w b' (some o')) (rd : RelD K mg w d v) (ng : b ≠ .gone := by nofun) (ng' : b' ≠ .gone := by nofun) : Q v (upd H (w.ρ l) o') :=
  q w v _ (Wd.Le.refl _) (r.write hl ng hb ng') rd
theorem append_r (h : rDm K mg T gAppend x xs H Q) : rAppend x xs H Q := by
  obtain ⟨w, μ, dx, ds, d, μ', r, rx, rs, e, q⟩ := h
  unfold gAppend at e
  split at e
  · obtain ⟨y, rfl, ry⟩ := rs.one1
    cases rx
    split at e
    · next ys hy =>
      split at e
      · next hl =>
        cases e
        obtain ⟨vs, h1, h2⟩ := r.lst hy
        exact ⟨_, vs, y, rfl, rfl, h1, by rw [← h2.length]; exact hl, q.write r hy (.lst (h2.append (.one ry))) .non⟩
      · cases e
    · cases e
  · cases e
theorem extend_r (h : rDm K mg T gExtend x xs H Q) : rExtend x xs H Q := by
  obtain ⟨w, μ, dx, ds, d, μ', r, rx, rs, e, q⟩ := h
  unfold gExtend at e
  split at e
  · obtain ⟨y, rfl, ry⟩ := rs.one1
    cases rx
    split at e
    · next ys zs hy hz =>
      split at e
      · next hl =>
        cases e
        obtain ⟨vs, h1, h2⟩ := r.lst hy
        obtain ⟨b, us, rfl, h3, h4⟩ := lstX_rel r ry hz
        exact ⟨_, b, vs, us, rfl, rfl, h1, h3, by rw [← h2.length, ← h4.length]; exact hl, q.write r hy (.lst (h2.append h4)) .non⟩
      · cases e
    · cases e
  · cases e
theorem RelDs.dropLast {w : Wd} {ds : List D} {vs : List V} (h : RelDs K mg w ds vs) : RelDs K mg w ds.dropLast vs.dropLast := by
  rw [List.dropLast_eq_take, List.dropLast_eq_take, ← h.length]
  exact h.take _
theorem pop_r (h : rDm K mg T gPop x xs H Q) : rPop x xs H Q ∨ rPopAt x xs H Q := by
  obtain ⟨w, μ, dx, ds, d, μ', r, rx, rs, e, q⟩ := h
  unfold gPop at e
  split at e
  · cases rs
    cases rx
    split at e
    · next ys hy =>
      split at e
      · next z hz =>
        cases e
        obtain ⟨vs, h1, h2⟩ := r.lst hy
        obtain ⟨v, hv, rv⟩ := h2.get hz
        exact .inl ⟨_, vs, v, rfl, rfl, h1, by rw [← h2.length]; exact hv, q.write r hy (.lst h2.dropLast) rv⟩
      · cases e
    · cases e
  · obtain ⟨y, rfl, ry⟩ := rs.one1
    cases rx
    cases ry
    split at e
    · next ys hy =>
      split at e
      · next hi =>
        split at e
        · next k hk =>
          split at e
          · next z hz =>
            cases e
            obtain ⟨vs, h1, h2⟩ := r.lst hy
            obtain ⟨v, hv, rv⟩ := h2.get hz
            exact .inr ⟨_, vs, _, k, v, rfl, rfl, h1, by have := hi.1; omega, by have := hi.2; omega, by rw [← h2.length]; exact hk, hv, q.write r hy (.lst (h2.eraseIdx k)) rv⟩
          · cases e
        · cases e
      · cases e
    · cases e
  · cases e
end
section
variable {X : Cx} {S : SI} {W : WX} {e o : Expr} {es : List Expr} {mo : EM} {mr : AM} {pos p apos : Pos}
theorem pe_mtL {g : D → List D → Mem → Option (D × Mem)} {r : V → List V → Hp → VK → Prop} (h : ∀ to t, PE X o to → PA X es t → PE X e (tBM X.K "list" r to t)) (hr : ∀ x xs H Q, rDm X.K X.mg S.T g x xs H Q → r x xs H Q) (ho : PE X o (TEm X S W mo)) (ha : PA X es (TAm X S W mr)) :
    PE X e (TEm X S W <| eMtL g mo mr) := PEi (h _ _ ho ha) fun σ H Q ⟨w, δ, μ, h⟩ => ⟨w, δ, μ, (At.bind h).mono fun x H1 ⟨w1, μ1, d, le, rd, h1⟩ => by
    split at h1
    · next hs =>
      obtain ⟨ys, hy⟩ := Option.isSome_iff_exists.mp hs
      obtain ⟨a, vs, rfl, h2, h3⟩ := lstX_rel h1.2.1 rd hy
      refine ⟨.inl ⟨rfl, vs, .inl (.inl h2)⟩, w1, δ, μ1, (At.bind h1).mono fun zs H2 ⟨w2, μ2, f, le2, re, h2⟩ => ?_⟩
      obtain ⟨z, μ3, e, q⟩ := h2.optM
      exact hr _ _ _ _ ⟨w2, μ2, d, f, z, μ3, h2.2.1, rd.mono le2, re, e, q⟩
    · exact h1.2.2.elim⟩
theorem MtR.ofM {id : String} {r : V → List V → Hp → VK → Prop} (h : MtM X id r) : MtR X id r := fun pins s σ H x xs v us Q I rx rs q => h pins s σ H x xs v us Q I rx rs q
theorem pe_append' (ho : PE X o (TEm X S W mo)) (ha : PA X (e :: es) (TAm X S W mr)) (hbase : attributeBase o "append" X.env (eval o X.env) = eval o X.env := by rfl)
    (hfew : ((backTo pos (starEach (e :: es) X.env)).all (fun x => !x.1) && (backToKw pos (keywordEach [] X.env)).all (fun x => x.1.isSome) && decide ((e :: es).length + ([] : List Keyword).length + (if ([] : List Keyword).isEmpty then 0 else 1) < 30)) = true := by rfl)
    (hline : (apos.endLine == pos.line) = true := by rfl) (hs : starEach (e :: es) X.env = (false, eval e X.env) :: starEach es X.env := by rfl) (hplain : (backTo pos (starEach es X.env)).any (·.1) = false := by rfl) :
    PE X (.Call (.Attribute o "append" apos) (e :: es) [] pos) (TEm X S W <| eMtL gAppend mo mr) :=
  pe_mtL (fun to t ho ha => pe_bm PySem.F.plainAttrs_list PySem.F.slot_list_append PySem.F.type_list_append (MtR.ofM mt_append) ho ha hbase hfew hline hs hplain) (fun _ _ _ _ => append_r) ho ha
theorem pe_extend' (ho : PE X o (TEm X S W mo)) (ha : PA X (e :: es) (TAm X S W mr)) (hbase : attributeBase o "extend" X.env (eval o X.env) = eval o X.env := by rfl)
    (hfew : ((backTo pos (starEach (e :: es) X.env)).all (fun x => !x.1) && (backToKw pos (keywordEach [] X.env)).all (fun x => x.1.isSome) && decide ((e :: es).length + ([] : List Keyword).length + (if ([] : List Keyword).isEmpty then 0 else 1) < 30)) = true := by rfl)
    (hline : (apos.endLine == pos.line) = true := by rfl) (hs : starEach (e :: es) X.env = (false, eval e X.env) :: starEach es X.env := by rfl) (hplain : (backTo pos (starEach es X.env)).any (·.1) = false := by rfl) :
    PE X (.Call (.Attribute o "extend" apos) (e :: es) [] pos) (TEm X S W <| eMtL gExtend mo mr) :=
  pe_mtL (fun to t ho ha => pe_bm PySem.F.plainAttrs_list PySem.F.slot_list_extend PySem.F.type_list_extend (MtR.ofM mt_extend) ho ha hbase hfew hline hs hplain) (fun _ _ _ _ => extend_r) ho ha
theorem pe_pop1' (ho : PE X o (TEm X S W mo)) (ha : PA X (e :: es) (TAm X S W mr)) (hbase : attributeBase o "pop" X.env (eval o X.env) = eval o X.env := by rfl)
    (hfew : ((backTo pos (starEach (e :: es) X.env)).all (fun x => !x.1) && (backToKw pos (keywordEach [] X.env)).all (fun x => x.1.isSome) && decide ((e :: es).length + ([] : List Keyword).length + (if ([] : List Keyword).isEmpty then 0 else 1) < 30)) = true := by rfl)
    (hline : (apos.endLine == pos.line) = true := by rfl) (hs : starEach (e :: es) X.env = (false, eval e X.env) :: starEach es X.env := by rfl) (hplain : (backTo pos (starEach es X.env)).any (·.1) = false := by rfl) :
    PE X (.Call (.Attribute o "pop" apos) (e :: es) [] pos) (TEm X S W <| eMtL gPop mo mr) :=
  pe_mtL (fun to t ho ha => pe_bm PySem.F.plainAttrs_list PySem.F.slot_list_pop PySem.F.type_list_pop (MtR.ofM mt_pop |>.or (MtR.ofM mt_popAt)) ho ha hbase hfew hline hs hplain) (fun _ _ _ _ => pop_r) ho ha
theorem pe_pop0' (ho : PE X o (TEm X S W mo)) (hbase : attributeBase o "pop" X.env (eval o X.env) = eval o X.env := by rfl) (hline : (apos.endLine == pos.line) = true := by rfl) :
    PE X (.Call (.Attribute o "pop" apos) [] [] pos) (TEm X S W <| eMtL gPop mo aNil) :=
  PEi (pe_bm0 PySem.F.plainAttrs_list PySem.F.slot_list_pop PySem.F.type_list_pop (MtR.ofM mt_pop |>.or (MtR.ofM mt_popAt)) ho hbase hline) fun σ H Q ⟨w, δ, μ, h⟩ => ⟨w, δ, μ, (At.bind h).mono fun x H1 ⟨w1, μ1, d, le, rd, h1⟩ => by
    split at h1
    · next hs =>
      obtain ⟨ys, hy⟩ := Option.isSome_iff_exists.mp hs
      obtain ⟨a, vs, rfl, h2, h3⟩ := lstX_rel h1.2.1 rd hy
      have h4 : At X.K X.mg S W (RelD X.K X.mg) σ Q w1 δ μ1 H1 (oOfM (gPop d [] μ1)) := h1
      obtain ⟨z, μ3, e, q⟩ := h4.optM
      exact ⟨.inl ⟨rfl, vs, .inl (.inl h2)⟩, pop_r ⟨w1, μ1, d, [], z, μ3, h1.2.1, rd, .nil, e, q⟩⟩
    · exact h1.2.2.elim⟩
end
end Kw

set_option Elab.async false
set_option linter.all false
set_option maxRecDepth 100000
namespace Kw
open PySem PySem.Spec PyProof.Rows L2

/-! ### statements -/
inductive SOut where
  | nx (δ : Sv) (μ : Mem)
  | ret (d : D) (μ : Mem)
  | bk (δ : Sv) (μ : Mem)
  | ct (δ : Sv) (μ : Mem)
  | exc (x : Xn) (δ : Sv) (μ : Mem)
  | stuck
abbrev SM := Sv → Mem → SOut
def Out.bindS {α : Type} (o : Out α) (δ : Sv) (k : α → Mem → SOut) : SOut := match o with
  | .ok a μ => k a μ
  | .exc x μ => .exc x δ μ
  | .stuck => .stuck
def SOut.then (o : SOut) (k : Sv → Mem → SOut) : SOut := match o with
  | .nx δ μ => k δ μ
  | o => o
section
variable (K : PySem.W.Frag) (mg : Str → Option Value) (S : SI) (W : WX)
/-- what is wanted behind a statement, by how it ends -/
def STo (D : Ends) (w : Wd) : SOut → Prop
  | .nx δ μ => ∀ w' σ H, w.Le w' → RelM K mg S.T w' μ H → RelSv K mg S w' δ σ → D.nx σ H
  | .ret d μ => ∀ w' v H, w.Le w' → RelM K mg S.T w' μ H → RelD K mg w' d v → D.rt v H
  | .bk δ μ => ∀ w' σ H, w.Le w' → RelM K mg S.T w' μ H → RelSv K mg S w' δ σ → D.bk σ H
  | .ct δ μ => ∀ w' σ H, w.Le w' → RelM K mg S.T w' μ H → RelSv K mg S w' δ σ → D.ct σ H
  | .exc x δ μ => ∀ w' cls dd σ H, w.Le w' → RelM K mg S.T w' μ H → RelSv K mg S w' δ σ → RelX K mg w' x cls dd → W cls dd σ H
  | .stuck => False
def tS (m : SM) : TS := fun D σ H => ∃ w δ μ, RelSv K mg S w δ σ ∧ RelM K mg S.T w μ H ∧ STo K mg S W D w (m δ μ)
/-- a target -/
abbrev GM := D → Sv → Mem → SOut
abbrev GsM := List D → Sv → Mem → SOut
def tG (m : GM) : TG := fun v σ H Q => ∃ D w δ μ d, RelSv K mg S w δ σ ∧ RelM K mg S.T w μ H ∧ RelD K mg w d v ∧ STo K mg S W D w (m d δ μ) ∧ ∀ σ H, D.nx σ H → Q σ H
def tGs (m : GsM) : TGs := fun vs σ H Q => ∃ D w δ μ ds, RelSv K mg S w δ σ ∧ RelM K mg S.T w μ H ∧ RelDs K mg w ds vs ∧ STo K mg S W D w (m ds δ μ) ∧ ∀ σ H, D.nx σ H → Q σ H
/-- what a for walks: the items, as they stand -/
def Walks (T : List (Addr × Str)) (w0 : Wd) (items : List D) (J : It) : Prop := ∀ w μ H i, w0.Lw w → RelM K mg T w μ H →
  (∀ d, items[i]? = some d → J.go i H ∧ ∀ x H', J.yld i H x H' → ∃ w1, w.Le w1 ∧ RelM K mg T w1 μ H' ∧ RelD K mg w1 d x) ∧ (items.length ≤ i → J.stop i H)
abbrev IM := Sv → Mem → Out (List D)
def tI (m : IM) : TI := tM K mg S W (Walks K mg S.T) m
end
abbrev TSm (X : Cx) (S : SI) (W : WX) (m : SM) : TS := tS X.K X.mg S W m
abbrev TGm (X : Cx) (S : SI) (W : WX) (m : GM) : TG := tG X.K X.mg S W m
abbrev TGsm (X : Cx) (S : SI) (W : WX) (m : GsM) : TGs := tGs X.K X.mg S W m
abbrev TIm (X : Cx) (S : SI) (W : WX) (m : IM) : TI := tI X.K X.mg S W m
section
variable {K : PySem.W.Frag} {mg : Str → Option Value} {S : SI} {W : WX} {D D' : Ends} {w w' : Wd} {δ : Sv} {μ : Mem} {σ : L2.St} {H : Hp}
theorem STo.mono (le : w.Le w') {o : SOut} (h : STo K mg S W D w o) : STo K mg S W D w' o := by
  cases o with
  | nx δ μ => exact fun w2 σ H l => h w2 σ H (le.trans l)
  | ret d μ => exact fun w2 σ H l => h w2 σ H (le.trans l)
  | bk δ μ => exact fun w2 σ H l => h w2 σ H (le.trans l)
  | ct δ μ => exact fun w2 σ H l => h w2 σ H (le.trans l)
  | exc x δ μ => exact fun w2 c d σ H l => h w2 c d σ H (le.trans l)
  | stuck => exact h
theorem At.bindS {α β : Type} {R : Wd → α → β → Prop} {o : Out α} {k : α → Mem → SOut} (hs : RelSv K mg S w δ σ) (hm : RelM K mg S.T w μ H) (h : STo K mg S W D w (o.bindS δ k)) :
    At K mg S W R σ (fun v H1 => ∃ w1 μ1 d, w.Le w1 ∧ R w1 d v ∧ RelSv K mg S w1 δ σ ∧ RelM K mg S.T w1 μ1 H1 ∧ STo K mg S W D w1 (k d μ1)) w δ μ H o := by
  refine ⟨hs, hm, ?_⟩
  cases o with
  | ok a μ' => exact fun w1 v H1 le r rd => ⟨w1, μ', a, le, rd, hs.mono le, r, STo.mono le h⟩
  | exc x μ' => exact fun w1 c d H1 le r rx => h w1 c d σ H1 le r (hs.mono le) rx
  | stuck => exact h
end

/-! ### simple statements -/
def sNext : SM := fun δ μ => .nx δ μ
def sSeq (a b : SM) : SM := fun δ μ => (a δ μ).then b
def sRet (ma : EM) : SM := fun δ μ => (ma δ μ).bindS δ fun d μ1 => .ret d μ1
def sRetN : SM := fun _ μ => .ret .non μ
def sDrop (ma : EM) : SM := fun δ μ => (ma δ μ).bindS δ fun _ μ1 => .nx δ μ1
def sIf (mt : TM) (a b : SM) : SM := fun δ μ => (mt δ μ).bindS δ fun k μ1 => if k = true then a δ μ1 else b δ μ1
def sAsg (ma : EM) (g : GM) : SM := fun δ μ => (ma δ μ).bindS δ fun d μ1 => g d δ μ1
def gNm (i : Nat) : GM := fun d δ μ => .nx (δ.set i (some d)) μ
def gsNil : GsM := fun ds δ μ => match ds with
  | [] => .nx δ μ
  | _ => .stuck
def gsCons (g : GM) (gs : GsM) : GsM := fun ds δ μ => match ds with
  | d :: r => (g d δ μ).then (gs r)
  | [] => .stuck
def gSeq (n : Nat) (gs : GsM) : GM := fun d δ μ => match seqOf μ d with
  | some xs => if xs.length = n then gs xs δ μ else .stuck
  | none => .stuck
def sPar (i j : Nat) (ma : AM) : SM := fun δ μ => (ma δ μ).bindS δ fun ds μ1 => match ds with
  | [a, b] => .nx ((δ.set i (some a)).set j (some b)) μ1
  | _ => .stuck
def sAug (i : Nat) (g : D → D → Mem → Option D) (ma : EM) : SM := fun δ μ => match δ[i]? with
  | some (some x) => (ma δ μ).bindS δ fun y μ1 => match x with
    | .lam => .stuck
    | .exc _ _ => .stuck
    | x => match g x y μ1 with
      | some z => .nx (δ.set i (some z)) μ1
      | none => .stuck
  | _ => .stuck
def sBreak : SM := fun δ μ => .bk δ μ
def sCont : SM := fun δ μ => .ct δ μ
def sStop : SM := fun _ _ => .stuck
section
variable {X : Cx} {S : SI} {W : WX} {a b e tg iter c : Expr} {ma mo mi : EM} {mt : TM} {m m1 m2 : SM} {mg : GM} {mgs : GsM} {mr : AM} {pos p p' pos' : Pos} {x y : Str} {i j n k : Nat} {st : Stmt} {rest body : List Stmt} {es : List Expr}
theorem PGi {e : Expr} {t t' : TG} (h : PG X e t') (i : ∀ v σ H Q, t v σ H Q → t' v σ H Q) : PG X e t := ⟨fun pins s σ H v u Q I r q => h.run pins s σ H v u Q I r (i _ _ _ _ q)⟩
theorem PGsi {e : List Expr} {t t' : TGs} (h : PGs X e t') (i : ∀ v σ H Q, t v σ H Q → t' v σ H Q) : PGs X e t := ⟨fun pins s σ H v u Q I r q => h.run pins s σ H v u Q I r (i _ _ _ _ q)⟩
theorem PGor {e : Expr} {t t' : TG} (h : PG X e t) (h' : PG X e t') : PG X e (fun v σ H Q => t v σ H Q ∨ t' v σ H Q) := ⟨fun pins s σ H v u Q I r q => q.elim (h.run pins s σ H v u Q I r) (h'.run pins s σ H v u Q I r)⟩
theorem pss_nil' : PSs X [] (TSm X S W sNext) := PSsi pss_nil fun D σ H ⟨w, δ, μ, rs, rm, h⟩ => h w σ H (Wd.Le.refl _) rm rs
theorem STo.seq {D : Ends} {w : Wd} {o : SOut} {k : SM} (h : STo X.K X.mg S W D w (o.then k)) : STo X.K X.mg S W { D with nx := TSm X S W k D } w o := by
  cases o with
  | nx δ μ => exact fun w' σ H le rm rs => ⟨w', δ, μ, rs, rm, STo.mono le h⟩
  | _ => exact h
theorem pss_cons' (h1 : PS X st (TSm X S W m1)) (h2 : PSs X rest (TSm X S W m2)) : PSs X (st :: rest) (TSm X S W <| sSeq m1 m2) := PSsi (pss_cons h1 h2) fun D σ H ⟨w, δ, μ, rs, rm, h⟩ => ⟨w, δ, μ, rs, rm, h.seq⟩
theorem pss_one' (h1 : PS X st (TSm X S W m1)) : PSs X [st] (TSm X S W m1) := pss_one h1
theorem ps_ret' (ha : PE X a (TEm X S W ma)) : PS X (.Return (some a) pos) (TSm X S W <| sRet ma) := PSi (ps_ret ha) fun D σ H ⟨w, δ, μ, rs, rm, h⟩ => ⟨w, δ, μ, (At.bindS rs rm h).mono fun v H1 ⟨w1, μ1, d, le, rd, rs1, rm1, q⟩ => q w1 v H1 (Wd.Le.refl _) rm1 rd⟩
theorem ps_retN' : PS X (.Return none pos) (TSm X S W sRetN) := PSi ps_retN fun D σ H ⟨w, δ, μ, rs, rm, h⟩ => h w _ H (Wd.Le.refl _) rm .non
theorem ps_pass' : PS X (.Pass pos) (TSm X S W sNext) := PSi ps_pass fun D σ H ⟨w, δ, μ, rs, rm, h⟩ => h w σ H (Wd.Le.refl _) rm rs
theorem ps_break' : PS X (.Break pos) (TSm X S W sBreak) := PSi ps_break fun D σ H ⟨w, δ, μ, rs, rm, h⟩ => h w σ H (Wd.Le.refl _) rm rs
theorem ps_cont' : PS X (.Continue pos) (TSm X S W sCont) := PSi ps_continue fun D σ H ⟨w, δ, μ, rs, rm, h⟩ => h w σ H (Wd.Le.refl _) rm rs
theorem ps_stop' : PS X st (TSm X S W sStop) := PSi ps_never fun D σ H ⟨w, δ, μ, rs, rm, h⟩ => h
theorem ps_expr' (ha : PE X a (TEm X S W ma)) (hs : swapsWith a none pos.line X.env = pure false := by rfl) : PS X (.Expr a pos) (TSm X S W <| sDrop ma) := PSi (ps_expr ha hs) fun D σ H ⟨w, δ, μ, rs, rm, h⟩ => ⟨w, δ, μ, (At.bindS rs rm h).mono fun v H1 ⟨w1, μ1, d, le, rd, rs1, rm1, q⟩ => q w1 σ H1 (Wd.Le.refl _) rm1 rs1⟩
theorem ps_if' {b' : List Stmt} (hc : PT X c (TTm X S W mt)) (h1 : PSs X body (TSm X S W m1)) (h2 : PSs X b' (TSm X S W m2)) : PS X (.If c body b' pos) (TSm X S W <| sIf mt m1 m2) := PSi (ps_if hc h1 h2) fun D σ H ⟨w, δ, μ, rs, rm, h⟩ => ⟨w, δ, μ, (At.bindS rs rm h).mono fun v H1 ⟨w1, μ1, d, le, rd, rs1, rm1, q⟩ => by
  cases rd
  split
  · next hv => rw [if_pos hv] at q; exact ⟨w1, δ, μ1, rs1, rm1, q⟩
  · next hv => rw [if_neg hv] at q; exact ⟨w1, δ, μ1, rs1, rm1, q⟩⟩
theorem ps_asg' (he : PE X e (TEm X S W ma)) (hg : PG X tg (TGm X S W mg)) (hs : swapsWithSole [tg] e pos.line X.env = pure false := by rfl) (hw : swappedStores [tg] e X.env = pure none := by rfl)
    (h1 : (assignEach [tg] X.env).map (·.2) = [assign tg X.env] := by rfl) : PS X (.Assign [tg] e pos) (TSm X S W <| sAsg ma mg) := PSi (ps_asg he hg hs hw h1) fun D σ H ⟨w, δ, μ, rs, rm, h⟩ => ⟨w, δ, μ, (At.bindS rs rm h).mono fun v H1 ⟨w1, μ1, d, le, rd, rs1, rm1, q⟩ => ⟨D, w1, δ, μ1, d, rs1, rm1, rd, q, fun _ _ q => q⟩⟩
theorem ps_set' (hN : X.N.Nodup) (hi : X.N[i]? = some x) (hx : Loc X.env.scope x) (he : PE X e (TEm X S W ma)) (hs : swapsWith e (some (.Name x pos')) pos.line X.env = pure false := by rfl) (hf : X.fn x = true ∨ X.env.scope.names.lookup x = some .local := by first | exact .inl rfl | exact .inr rfl | assumption) :
    PS X (.Assign [.Name x pos'] e pos) (TSm X S W <| sAsg ma (gNm i)) := PSi (ps_set hN hi hx he hs hf) fun D σ H ⟨w, δ, μ, rs, rm, h⟩ => ⟨w, δ, μ, (At.bindS rs rm h).mono fun v H1 ⟨w1, μ1, d, le, rd, rs1, rm1, q⟩ => q w1 _ H1 (Wd.Le.refl _) rm1 (rs1.set i rd)⟩
theorem pg_name' (hN : X.N.Nodup) (hi : X.N[i]? = some x) (hx : Loc X.env.scope x) (hf : X.fn x = true ∨ X.env.scope.names.lookup x = some .local := by first | exact .inl rfl | exact .inr rfl | assumption) : PG X (.Name x pos) (TGm X S W <| gNm i) :=
  PGi (pg_name hN hi hx hf) fun v σ H Q ⟨D, w, δ, μ, d, rs, rm, rd, q, hq⟩ => hq _ _ (q w _ H (Wd.Le.refl _) rm (rs.set i rd))
theorem pgs_nil' : PGs X [] (TGsm X S W gsNil) := PGsi pgs_nil fun v σ H Q ⟨D, w, δ, μ, d, rs, rm, rd, q, hq⟩ => by
  unfold gsNil at q
  split at q
  · cases rd
    exact ⟨rfl, hq _ _ (q w _ H (Wd.Le.refl _) rm rs)⟩
  · exact q.elim
theorem pgs_cons' (h1 : PG X e (TGm X S W mg)) (h2 : PGs X es (TGsm X S W mgs)) (hs : (assignEach (e :: es) X.env).map (·.2) = assign e X.env :: (assignEach es X.env).map (·.2) := by rfl) : PGs X (e :: es) (TGsm X S W <| gsCons mg mgs) :=
  PGsi (pgs_cons h1 h2 hs) fun v σ H Q ⟨D, w, δ, μ, ds, rs, rm, rd, q, hq⟩ => by
    unfold gsCons at q
    split at q
    · next d r =>
      cases rd with
      | @cons _ _ u us r1 r2 =>
        refine ⟨u, us, rfl, { D with nx := fun σ' H' => TGsm X S W mgs us σ' H' Q }, w, δ, μ, d, rs, rm, r1, ?_, fun _ _ q => q⟩
        generalize mg d δ μ = o at q
        cases o with
        | nx δ' μ' => exact fun w' σ' H' le rm' rs' => ⟨D, w', δ', μ', r, rs', rm', RelDs.mono le r2, STo.mono le q, hq⟩
        | _ => exact q
    · exact q.elim
theorem pg_seq' {kk : Nat} (hc : X.calm = true) (h : PGs X es (TGsm X S W mgs)) (hn : (assignEach es X.env).length = n := by rfl) (hst : (assignEach es X.env).findIdx? (·.1) = none := by rfl) : PG X (.Tuple es kk pos) (TGm X S W <| gSeq n mgs) :=
  PGi (PGor (pg_tup hc h hn hst) (pg_unl hc h hn hst)) fun v σ H Q ⟨D, w, δ, μ, d, rs, rm, rd, q, hq⟩ => by
    unfold gSeq at q
    split at q
    · next xs hx =>
      split at q
      · next hl =>
        obtain ⟨a, vs, h1, h2, h3⟩ := seqOf_rel rm rd hx
        rcases h2 with h2 | h2
        · exact .inr ⟨a, vs, h1, h2, by rw [← h3.length]; exact hl, D, w, δ, μ, xs, rs, rm, h3, q, hq⟩
        · exact .inl ⟨a, vs, h1, h2, by rw [← h3.length]; exact hl, D, w, δ, μ, xs, rs, rm, h3, q, hq⟩
      · exact q.elim
    · exact q.elim
theorem ps_par' {px py pt : Pos} {kt k2 pt2} (hc : X.calm = true) (hN : X.N.Nodup) (hi : X.N[i]? = some x) (hj : X.N[j]? = some y) (hij : i ≠ j)
    (hx : X.env.scope.names.lookup x = some .local) (hy : X.env.scope.names.lookup y = some .local) (ha : PA X [a, b] (TAm X S W mr))
    (hw : swappedStores [.Tuple [.Name x px, .Name y py] kt pt] (.Tuple [a, b] k2 pt2) X.env = pure (some [x, y]))
    (hs : swapsWithSole [.Tuple [.Name x px, .Name y py] kt pt] (.Tuple [a, b] k2 pt2) pos.line X.env = pure false := by rfl) :
    PS X (.Assign [.Tuple [.Name x px, .Name y py] kt pt] (.Tuple [a, b] k2 pt2) pos) (TSm X S W <| sPar i j mr) :=
  PSi (ps_par hc hN hi hj hij hx hy ha hw hs) fun D σ H ⟨w, δ, μ, rs, rm, h⟩ => ⟨w, δ, μ, (At.bindS rs rm h).mono fun v H1 ⟨w1, μ1, d, le, rd, rs1, rm1, q⟩ => by
    split at q
    · obtain ⟨v1, v2, rfl, r1, r2⟩ := rd.two2
      exact ⟨v1, v2, rfl, q w1 _ H1 (Wd.Le.refl _) rm1 ((rs1.set i r1).set j r2)⟩
    · exact q.elim⟩
theorem ps_aug' {op : Operator} {r : R2} {g : D → D → Mem → Option D} (ho : OpR X (inplaceOp op) r) (hr : ∀ x y H Q, rD2 X.K X.mg S.T g x y H Q → r x y H Q) (hN : X.N.Nodup) (hi : X.N[i]? = some x) (hx : Loc X.env.scope x) (he : PE X e (TEm X S W ma))
    (hf : X.fn x = true ∨ X.env.scope.names.lookup x = some .local := by first | exact .inl rfl | exact .inr rfl | assumption) : PS X (.AugAssign (.Name x pos') op e pos) (TSm X S W <| sAug i g ma) :=
  PSi (ps_aug hN hi hx he (ti := r) (fun pins s σ H x y v u Q I rx ry q => ho pins s σ H x y v u Q I rx ry q) hf) fun D σ H ⟨w, δ, μ, rs, rm, h⟩ => by
    unfold sAug at h
    split at h
    · next d hd =>
      obtain ⟨v, hv, rv⟩ := rs.2 i d hd
      refine ⟨v, hv, w, δ, μ, (At.bindS rs rm h).mono fun u H1 ⟨w1, μ1, d1, le, rd, rs1, rm1, q⟩ => ?_⟩
      split at q
      · exact q.elim
      · exact q.elim
      · next n1 n2 =>
        split at q
        · next z hz =>
          have rx : RelD X.K X.mg w d v := by
            cases d with
            | lam => exact absurd rfl n1
            | exc c fs => exact absurd rfl (n2 c fs)
            | _ => exact rv
          exact hr _ _ _ _ ⟨w1, μ1, d, d1, z, rm1, rx.mono le, rd, hz, fun w2 v2 H2 le2 rm2 rd2 => q w2 _ H2 le2 rm2 ((rs1.mono le2).set i rd2)⟩
        · exact q.elim
    · exact h.elim
end
end Kw

set_option Elab.async false
set_option linter.all false
set_option maxRecDepth 100000
namespace Kw
open PySem PySem.Spec PyProof.Rows L2

/-! ### loops -/
def loopS (g : GM) (b : SM) : List D → SM
  | [], δ, μ => .nx δ μ
  | d :: ds, δ, μ => match g d δ μ with
    | .nx δ1 μ1 => match b δ1 μ1 with
      | .nx δ2 μ2 => loopS g b ds δ2 μ2
      | .ct δ2 μ2 => loopS g b ds δ2 μ2
      | .bk δ2 μ2 => .nx δ2 μ2
      | .ret v μ2 => .ret v μ2
      | .exc x δ2 μ2 => .exc x δ2 μ2
      | .stuck => .stuck
    | .exc x δ2 μ2 => .exc x δ2 μ2
    | _ => .stuck
def sFor (mi : IM) (g : GM) (b : SM) : SM := fun δ μ => (mi δ μ).bindS δ fun items μ1 => loopS g b items δ μ1
def whileS (c : TM) (b : SM) : Nat → SM
  | 0, _, _ => .stuck
  | n + 1, δ, μ => (c δ μ).bindS δ fun k μ1 => if k = true then match b δ μ1 with
      | .nx δ2 μ2 => whileS c b n δ2 μ2
      | .ct δ2 μ2 => whileS c b n δ2 μ2
      | .bk δ2 μ2 => .nx δ2 μ2
      | .ret v μ2 => .ret v μ2
      | .exc x δ2 μ2 => .exc x δ2 μ2
      | .stuck => .stuck
    else .nx δ μ1
def sWhile (fuel : Sv → Mem → Nat) (c : TM) (b : SM) : SM := fun δ μ => whileS c b (fuel δ μ) δ μ

section
variable {X : Cx} {S : SI} {W : WX} {a b e tg iter c : Expr} {ma : EM} {mt : TM} {m m1 m2 : SM} {g : GM} {mr : AM} {mi : IM} {pos p : Pos} {body : List Stmt} {es : List Expr}
theorem ps_for' (hp : PassesOwn (model X.prog X.w) X.A X.env X.xe) (hc : X.calm = true) (hi : PI X tg iter (TIm X S W mi)) (hg : PG X tg (TGm X S W g)) (hb : PSs X body (TSm X S W m))
    (hs : ∀ x, foldedSetIterable iter X.env x = pure x := by intro _; rfl) : PS X (.For tg iter body [] pos) (TSm X S W <| sFor mi g m) :=
  PSi (ps_for hp hc hi hg hb hs) fun D σ H ⟨w, δ, μ, rs, rm, h⟩ => ⟨w, δ, μ, (At.bindS rs rm h).mono fun J H1 ⟨w1, μ1, items, le1, wk, rs1, rm1, q⟩ => by
    refine ⟨fun i n σ H => n + i = items.length ∧ ∃ w δ μ, w1.Le w ∧ RelSv X.K X.mg S w δ σ ∧ RelM X.K X.mg S.T w μ H ∧ STo X.K X.mg S W D w (loopS g m (items.drop i) δ μ), ⟨items.length, rfl, w1, δ, μ1, Wd.Le.refl _, rs1, rm1, q⟩, ?_⟩
    intro i n σ H ⟨hn, w2, δ2, μ2, le2, rs2, rm2, q2⟩
    obtain ⟨k1, k2⟩ := wk w2 μ2 H i le2.lw rm2
    by_cases hi : i < items.length
    · right
      have hd : items[i]? = some items[i] := List.getElem?_eq_getElem hi
      obtain ⟨go, yl⟩ := k1 _ hd
      rw [List.drop_eq_getElem_cons hi] at q2
      refine ⟨go, fun σ' H' => ∃ w δ μ, w1.Le w ∧ RelSv X.K X.mg S w δ σ' ∧ RelM X.K X.mg S.T w μ H' ∧ STo X.K X.mg S W D w (loopS g m (items.drop (i + 1)) δ μ), fun σ' H' hN => ⟨items.length - (i + 1), by omega, by omega, hN⟩, fun x H' hy => ?_⟩
      obtain ⟨w3, le3, rm3, rd⟩ := yl x H' hy
      have q3 := STo.mono le3 q2
      generalize items[i] = d at q3 rd
      unfold loopS at q3
      refine ⟨{ D with nx := fun σ' H' => TSm X S W m { D with nx := fun σ' H' => ∃ w δ μ, w1.Le w ∧ RelSv X.K X.mg S w δ σ' ∧ RelM X.K X.mg S.T w μ H' ∧ STo X.K X.mg S W D w (loopS g m (items.drop (i + 1)) δ μ), ct := fun σ' H' => ∃ w δ μ, w1.Le w ∧ RelSv X.K X.mg S w δ σ' ∧ RelM X.K X.mg S.T w μ H' ∧ STo X.K X.mg S W D w (loopS g m (items.drop (i + 1)) δ μ), bk := D.nx } σ' H' }, w3, δ2, μ2, d, rs2.mono le3, rm3, rd, ?_, fun _ _ q => q⟩
      generalize g d δ2 μ2 = o at q3
      cases o with
      | nx δ3 μ3 =>
        intro w4 σ4 H4 le4 rm4 rs4
        refine ⟨w4, δ3, μ3, rs4, rm4, ?_⟩
        have q4 := STo.mono le4 q3
        have l14 := (le2.trans le3).trans le4
        show STo X.K X.mg S W _ w4 (m δ3 μ3)
        simp only at q4
        generalize m δ3 μ3 = o at q4
        cases o with
        | nx δ5 μ5 => exact fun w5 σ5 H5 le5 rm5 rs5 => ⟨w5, δ5, μ5, l14.trans le5, rs5, rm5, STo.mono le5 q4⟩
        | ct δ5 μ5 => exact fun w5 σ5 H5 le5 rm5 rs5 => ⟨w5, δ5, μ5, l14.trans le5, rs5, rm5, STo.mono le5 q4⟩
        | bk δ5 μ5 => exact q4
        | ret v μ5 => exact q4
        | exc x δ5 μ5 => exact q4
        | stuck => exact q4
      | exc x δ3 μ3 => exact q3
      | _ => exact q3.elim
    · left
      rw [List.drop_eq_nil_of_le (by omega)] at q2
      exact ⟨k2 (by omega), q2 w2 σ H (Wd.Le.refl _) rm2 rs2⟩⟩
theorem ps_while' {fuel : Sv → Mem → Nat} (hp : PassesOwn (model X.prog X.w) X.A X.env X.xe) (hc : PT X c (TTm X S W mt)) (hb : PSs X body (TSm X S W m)) : PS X (.While c body [] pos) (TSm X S W <| sWhile fuel mt m) :=
  PSi (ps_while hp hc hb) fun D σ H ⟨w, δ, μ, rs, rm, h⟩ => by
    refine ⟨fun n σ H => ∃ w δ μ, RelSv X.K X.mg S w δ σ ∧ RelM X.K X.mg S.T w μ H ∧ STo X.K X.mg S W D w (whileS mt m n δ μ), ⟨fuel δ μ, w, δ, μ, rs, rm, h⟩, ?_⟩
    intro n σ H ⟨w1, δ1, μ1, rs1, rm1, q1⟩
    cases n with
    | zero => exact q1.elim
    | succ n =>
      refine ⟨w1, δ1, μ1, (At.bindS rs1 rm1 q1).mono fun v H2 ⟨w2, μ2, k, le2, rk, rs2, rm2, q2⟩ => ?_⟩
      cases rk
      split
      · next hk =>
        rw [if_pos hk] at q2
        refine ⟨fun σ' H' => ∃ w δ μ, RelSv X.K X.mg S w δ σ' ∧ RelM X.K X.mg S.T w μ H' ∧ STo X.K X.mg S W D w (whileS mt m n δ μ), fun σ' H' hN => ⟨n, Nat.lt_succ_self n, hN⟩, w2, δ1, μ2, rs2, rm2, ?_⟩
        generalize m δ1 μ2 = o at q2
        cases o with
        | nx δ5 μ5 => exact fun w5 σ5 H5 le5 rm5 rs5 => ⟨w5, δ5, μ5, rs5, rm5, STo.mono le5 q2⟩
        | ct δ5 μ5 => exact fun w5 σ5 H5 le5 rm5 rs5 => ⟨w5, δ5, μ5, rs5, rm5, STo.mono le5 q2⟩
        | bk δ5 μ5 => exact q2
        | ret v μ5 => exact q2
        | exc x δ5 μ5 => exact q2
        | stuck => exact q2
      · next hk =>
        rw [if_neg hk] at q2
        exact q2 w2 _ H2 (Wd.Le.refl _) rm2 rs2
/-! ### what a for walks -/
/-- the items of what never changes -/
def seqV : D → Option (List D)
  | .tup xs => some xs
  | .lst xs => some xs
  | .scr xs => some xs
  | _ => none
def iSeq (ma : EM) : IM := fun δ μ => (ma δ μ).bind fun x μ1 => match seqV x with
  | some xs => .ok xs μ1
  | none => .stuck
def iRange1 (mr : AM) : IM := fun δ μ => (mr δ μ).bind fun xs μ1 => match xs with
  | [.int j] => if -4611686018427387904 ≤ j ∧ j < 4611686018427387904 then .ok ((List.range j.toNat).map fun (k : Nat) => .int (k : Int)) μ1 else .stuck
  | _ => .stuck
def iRange2 (mr : AM) : IM := fun δ μ => (mr δ μ).bind fun xs μ1 => match xs with
  | [.int i, .int j] => if (-4611686018427387904 ≤ i ∧ i < 4611686018427387904) ∧ -4611686018427387904 ≤ j ∧ j < 4611686018427387904 then .ok ((List.range (j - i).toNat).map fun (k : Nat) => .int (i + (k : Int))) μ1 else .stuck
  | _ => .stuck
theorem PIi {t t' : TI} (h : PI X tg iter t') (i : ∀ σ H Q, t σ H Q → t' σ H Q) : PI X tg iter t := ⟨fun pins s σ H R I q => h.run pins s σ H R I (i _ _ _ q)⟩
theorem PIor {t t' : TI} (h : PI X tg iter t) (h' : PI X tg iter t') : PI X tg iter (fun σ H Q => t σ H Q ∨ t' σ H Q) := ⟨fun pins s σ H R I q => q.elim (h.run pins s σ H R I) (h'.run pins s σ H R I)⟩
section
variable {K : PySem.W.Frag} {mg : Str → Option Value} {T : List (Addr × Str)} {w0 : Wd}
theorem walks_rng {i : Int} {n : Nat} : Walks K mg T w0 ((List.range n).map fun (k : Nat) => .int (i + (k : Int))) (Itr i n) := fun w μ H k le rm => by
  refine ⟨fun d hd => ?_, fun hk => by simp at hk; exact hk⟩
  have hk : k < n := by
    have := (List.getElem?_eq_some_iff.mp hd).1
    simpa using this
  refine ⟨hk, fun x H' ⟨e, ex⟩ => ⟨w, Wd.Le.refl _, e ▸ rm, ?_⟩⟩
  rw [List.getElem?_map, List.getElem?_range hk] at hd
  cases hd
  subst ex
  exact .int _
theorem walks_lst {a : Addr} {vs : List V} {ds : List D} (hs : SqL K w0.φ a vs ∨ w0.fr a = some (.lst vs)) (hr : RelDs K mg w0 ds vs) : Walks K mg T w0 ds (Itl K a) := fun w μ H k le rm => by
  have hH : SqL K H a vs := scr_H rm (hs.elim (fun h => .inl (sqL_mono le.φ h)) fun h => .inr (by rw [le.fr]; exact h))
  refine ⟨fun d hd => ?_, fun hk => ⟨vs, hH, by rw [← hr.length]; exact hk⟩⟩
  obtain ⟨v, hv, rv⟩ := hr.get hd
  refine ⟨⟨vs, v, hH, hv⟩, fun x H' ⟨e, ex⟩ => ⟨w, Wd.Le.refl _, e ▸ rm, ?_⟩⟩
  have := ex vs hH
  rw [hv] at this
  cases this
  exact rv.monoW le
theorem walks_tup {a : Addr} {vs : List V} {ds : List D} (hs : SqT K w0.φ a vs) (hr : RelDs K mg w0 ds vs) : Walks K mg T w0 ds (Itt K a) := fun w μ H k le rm => by
  have hH : SqT K H a vs := sqT_mono rm.φ (sqT_mono le.φ hs)
  refine ⟨fun d hd => ?_, fun hk => ⟨vs, hH, by rw [← hr.length]; exact hk⟩⟩
  obtain ⟨v, hv, rv⟩ := hr.get hd
  refine ⟨⟨vs, v, hH, hv⟩, fun x H' ⟨e, ex⟩ => ⟨w, Wd.Le.refl _, e ▸ rm, ?_⟩⟩
  have := ex vs hH
  rw [hv] at this
  cases this
  exact rv.monoW le
end
theorem pi_seq' (ha : PE X a (TEm X S W ma)) : PI X tg a (TIm X S W <| iSeq ma) := PIi (PIor (pi_list ha) (pi_tup ha)) fun σ H R ⟨w, δ, μ, h⟩ => by
  have h3 := h.2.2
  unfold iSeq at h3
  cases e : ma δ μ with
  | stuck => rw [e] at h3; exact h3.elim
  | exc x μ' => rw [e] at h3; exact .inl ⟨w, δ, μ, h.1, h.2.1, by rw [e]; exact h3⟩
  | ok d μ' =>
    rw [e] at h3
    cases d with
    | tup xs =>
      refine .inr ⟨w, δ, μ, h.1, h.2.1, ?_⟩
      rw [e]
      intro w' v H' le rm rd
      cases rd with
      | @tup b vs ds e rs => exact ⟨b, rfl, ⟨vs, sqT_mono rm.φ e⟩, h3 w' _ H' le rm (walks_tup e rs)⟩
    | lst xs =>
      refine .inl ⟨w, δ, μ, h.1, h.2.1, ?_⟩
      rw [e]
      intro w' v H' le rm rd
      cases rd with
      | @lst b vs ds e rs => exact ⟨b, rfl, ⟨vs, .inl (.inl (rm.φ _ _ e))⟩, h3 w' _ H' le rm (walks_lst (.inl (.inl (.inl e))) rs)⟩
    | scr xs =>
      refine .inl ⟨w, δ, μ, h.1, h.2.1, ?_⟩
      rw [e]
      intro w' v H' le rm rd
      cases rd with
      | @scr b vs ds e rs => exact ⟨b, rfl, ⟨vs, scr_H rm e⟩, h3 w' _ H' le rm (walks_lst e rs)⟩
    | _ => exact h3.elim
theorem pi_range1' (hg : Gl X "range") (hm : X.mg "range" = none) (ha : PA X [a] (TAm X S W mr)) (hs : starEach [a] X.env = [(false, eval a X.env)] := by rfl) : PI X tg (.Call (.Name "range" p) [a] [] pos) (TIm X S W <| iRange1 mr) :=
  PIi (pi_range1 hg hm ha hs) fun σ H R ⟨w, δ, μ, h⟩ => ⟨w, δ, μ, (At.bind h).mono fun v H1 ⟨w1, μ1, d, le, rd, h1⟩ => by
    split at h1
    · next j =>
      obtain ⟨x, rfl, rx⟩ := rd.one1
      cases rx
      split at h1
      · next hj =>
        refine ⟨j, rfl, by omega, by omega, h1.2.2 w1 _ H1 (Wd.Le.refl _) h1.2.1 ?_⟩
        have := walks_rng (K := X.K) (mg := X.mg) (T := S.T) (w0 := w1) (i := 0) (n := j.toNat)
        simpa using this
      · exact h1.2.2.elim
    · exact h1.2.2.elim⟩
theorem pi_range2' (hg : Gl X "range") (hm : X.mg "range" = none) (ha : PA X [a, b] (TAm X S W mr)) (hs : starEach [a, b] X.env = [(false, eval a X.env), (false, eval b X.env)] := by rfl) (hs2 : starEach [b] X.env = [(false, eval b X.env)] := by rfl) :
    PI X tg (.Call (.Name "range" p) [a, b] [] pos) (TIm X S W <| iRange2 mr) :=
  PIi (pi_range2 hg hm ha hs hs2) fun σ H R ⟨w, δ, μ, h⟩ => ⟨w, δ, μ, (At.bind h).mono fun v H1 ⟨w1, μ1, d, le, rd, h1⟩ => by
    split at h1
    · next i j =>
      obtain ⟨x, y, rfl, rx, ry⟩ := rd.two2
      cases rx; cases ry
      split at h1
      · next hj => exact ⟨i, j, rfl, ⟨by omega, by omega, by omega, by omega⟩, h1.2.2 w1 _ H1 (Wd.Le.refl _) h1.2.1 walks_rng⟩
      · exact h1.2.2.elim
    · exact h1.2.2.elim⟩
end
end Kw

set_option Elab.async false
set_option linter.all false
set_option maxRecDepth 100000
namespace Kw
open PySem PySem.Spec PyProof.Rows L2

/-! ### slots forgotten -/
def wipeD (δ : Sv) : List Nat → Sv
  | [] => δ
  | v :: vs => (wipeD δ vs).set v none
theorem wipeD_length (δ : Sv) : ∀ vs : List Nat, (wipeD δ vs).length = δ.length
  | [] => rfl
  | v :: vs => by unfold wipeD; rw [List.length_set, wipeD_length δ vs]
theorem wipe_get (σ : L2.St) : ∀ (vs : List Nat) (i : Nat), i ∉ vs → (wipe σ vs)[i]? = σ[i]?
  | [], i, _ => rfl
  | v :: vs, i, h => by
    unfold wipe
    rw [List.getElem?_set_ne (fun e => h (by rw [e]; exact List.mem_cons_self)), wipe_get σ vs i fun hi => h (List.mem_cons_of_mem _ hi)]
theorem wipe_in (σ : L2.St) : ∀ (vs : List Nat) (i : Nat), i ∈ vs → i < σ.length → (wipe σ vs)[i]? = some none
  | v :: vs, i, h, hl => by
    unfold wipe
    by_cases e : v = i
    · subst e
      rw [List.getElem?_set_self (by rw [wipe_length]; exact hl)]
    · rw [List.getElem?_set_ne e]
      exact wipe_in σ vs i ((List.mem_cons.mp h).resolve_left fun z => e z.symm) hl
theorem wipe_eq {σ τ : L2.St} {vs : List Nat} (hl : σ.length = τ.length) (h : ∀ i, i ∉ vs → σ[i]? = τ[i]?) : wipe σ vs = wipe τ vs := by
  refine List.ext_getElem? fun i => ?_
  by_cases hi : i ∈ vs
  · by_cases hn : i < σ.length
    · rw [wipe_in σ vs i hi hn, wipe_in τ vs i hi (by omega)]
    · rw [List.getElem?_eq_none (by rw [wipe_length]; omega), List.getElem?_eq_none (by rw [wipe_length]; omega)]
  · rw [wipe_get σ vs i hi, wipe_get τ vs i hi, h i hi]
theorem wipe_set {σ : L2.St} {vs : List Nat} {i : Nat} (hi : i ∈ vs) (v : Option V) : wipe (σ.set i v) vs = wipe σ vs :=
  wipe_eq (List.length_set ..) fun j hj => List.getElem?_set_ne fun e => hj (by rw [← e]; exact hi)
theorem wipe_wipe (σ : L2.St) (vs : List Nat) : wipe (wipe σ vs) vs = wipe σ vs := wipe_eq (wipe_length ..) fun j hj => wipe_get σ vs j hj
theorem RelSv.forget {K : PySem.W.Frag} {mg : Str → Option Value} {S : SI} {w : Wd} {δ : Sv} {σ : L2.St} (h : RelSv K mg S w δ σ) (i : Nat) : RelSv K mg S w (δ.set i Option.none) (σ.set i Option.none) := by
  refine ⟨by simp [h.1], fun j e he => ?_⟩
  by_cases hj : i = j
  · subst hj
    by_cases hl : i < δ.length
    · rw [List.getElem?_set_self hl] at he
      cases he
    · rw [List.getElem?_eq_none (by simpa using hl)] at he
      cases he
  · rw [List.getElem?_set_ne hj] at he
    rw [List.getElem?_set_ne hj]
    exact h.2 j e he
theorem RelSv.wipe {K : PySem.W.Frag} {mg : Str → Option Value} {S : SI} {w : Wd} {δ : Sv} {σ : L2.St} (h : RelSv K mg S w δ σ) : ∀ vs : List Nat, RelSv K mg S w (wipeD δ vs) (L2.wipe σ vs)
  | [] => h
  | v :: vs => (RelSv.wipe h vs).forget v

/-! ### targets that are names -/
/-- a target that stores into the slots vs alone, by values and by data -/
def NmTg (K : PySem.W.Frag) (mg : Str → Option Value) (S : SI) (vs : List Nat) (gV : TG) (g : GM) : Prop := ∀ w δ μ d v (σ : L2.St) H Q δ' μ', RelSv K mg S w δ σ → RelM K mg S.T w μ H → RelD K mg w d v → g d δ μ = .nx δ' μ' →
  (∀ σ', RelSv K mg S w δ' σ' → L2.wipe σ' vs = L2.wipe σ vs → μ' = μ → Q σ' H) → gV v σ H Q
def NmTgs (K : PySem.W.Frag) (mg : Str → Option Value) (S : SI) (vs : List Nat) (gV : TGs) (g : GsM) : Prop := ∀ w δ μ d v (σ : L2.St) H Q δ' μ', RelSv K mg S w δ σ → RelM K mg S.T w μ H → RelDs K mg w d v → g d δ μ = .nx δ' μ' →
  (∀ σ', RelSv K mg S w δ' σ' → L2.wipe σ' vs = L2.wipe σ vs → μ' = μ → Q σ' H) → gV v σ H Q
section
variable {K : PySem.W.Frag} {mg : Str → Option Value} {S : SI} {vs : List Nat}
theorem nmTg {i : Nat} (hi : i ∈ vs) : NmTg K mg S vs (gName i) (gNm i) := fun w δ μ d v σ H Q δ' μ' rs rm rd e h => by
  cases e
  exact h _ (rs.set i rd) (wipe_set hi _) rfl
theorem nmTgs_nil : NmTgs K mg S vs gNil gsNil := fun w δ μ d v σ H Q δ' μ' rs rm rd e h => by
  unfold gsNil at e
  split at e
  · cases rd; cases e
    exact ⟨rfl, h _ rs rfl rfl⟩
  · cases e
theorem nmTgs_cons {i : Nat} (hi : i ∈ vs) {gV : TGs} {g : GsM} (h2 : NmTgs K mg S vs gV g) : NmTgs K mg S vs (gCons (gName i) gV) (gsCons (gNm i) g) := fun w δ μ d v σ H Q δ' μ' rs rm rd e h => by
  unfold gsCons at e
  split at e
  · cases rd with
    | @cons d ds u us r1 r2 =>
      refine ⟨u, us, rfl, h2 w _ μ _ _ _ H Q δ' μ' (rs.set i r1) rm r2 e fun σ' a b c => h σ' a (b.trans (wipe_set hi _)) c⟩
  · cases e
theorem nmTg_seq {n : Nat} {gV : TGs} {g : GsM} (h2 : NmTgs K mg S vs gV g) : NmTg K mg S vs (fun v σ H Q => gTup K n gV v σ H Q ∨ gUnl K n gV v σ H Q) (gSeq n g) := fun w δ μ d v σ H Q δ' μ' rs rm rd e h => by
  unfold gSeq at e
  split at e
  · next xs hx =>
    split at e
    · next hl =>
      obtain ⟨a, us, h1, h3, h4⟩ := seqOf_rel rm rd hx
      rcases h3 with h3 | h3
      · exact .inr ⟨a, us, h1, h3, by rw [← h4.length]; exact hl, h2 w δ μ _ _ σ H Q δ' μ' rs rm h4 e h⟩
      · exact .inl ⟨a, us, h1, h3, by rw [← h4.length]; exact hl, h2 w δ μ _ _ σ H Q δ' μ' rs rm h4 e h⟩
    · cases e
  · cases e
end

/-! ### a list made by a comprehension -/
/-- no exception -/
def W0 : WX := fun _ _ _ _ => False
def lcL (g : GM) (mt : TM) (me : EM) (δ : Sv) : List D → Mem → Out (List D)
  | [], μ => .ok [] μ
  | d :: ds, μ => match g d δ μ with
    | .nx δ1 μ1 => match mt δ1 μ1 with
      | .ok true μ2 => match me δ1 μ2 with
        | .ok y μ3 => match lcL g mt me δ ds μ3 with
          | .ok ys μ4 => .ok (y :: ys) μ4
          | _ => .stuck
        | _ => .stuck
      | .ok false μ2 => lcL g mt me δ ds μ2
      | _ => .stuck
    | _ => .stuck
def eLc (mi : IM) (g : GM) (mt : TM) (me : EM) (vs : List Nat) : EM := fun δ μ => (mi δ μ).bind fun items μ1 => match lcL g mt me (wipeD δ vs) items μ1 with
  | .ok ys μ2 => if ys.length ≤ sizeLine then .ok (.lst ys) μ2 else .stuck
  | _ => .stuck
section
variable {X : Cx} {S : SI} {W : WX} {elt tg iter : Expr} {ifs : List Expr} {scope : Scope} {own : List (Str × Nat)} {pos : Pos} {mi : IM} {g : GM} {gV : TG} {mt : TM} {me : EM}
theorem tLc_of {σ : L2.St} {H : Hp} {Q : VK} {vs : List Nat} (hn : NmTg X.K X.mg S vs gV g) (h : tM X.K X.mg S W (RelD X.K X.mg) (eLc mi g mt me vs) σ H Q) : tLc (TIm X S W mi) gV (TTm X S W0 mt) (TEm X S W0 me) vs σ H Q := by
  obtain ⟨w, δ, μ, h⟩ := h
  refine ⟨w, δ, μ, (At.bind h).mono fun J H1 ⟨w1, μ1, items, le1, wk, h1⟩ => ?_⟩
  have rs1 := h1.1
  have rm1 := h1.2.1
  have h3 := h1.2.2
  cases e : lcL g mt me (wipeD δ vs) items μ1 with
  | stuck => rw [e] at h3; exact h3.elim
  | exc x μ' => rw [e] at h3; exact h3.elim
  | ok ys μ2 =>
    rw [e] at h3
    simp only at h3
    split at h3
    case isFalse => exact h3.elim
    case isTrue hsz =>
    intro D hD
    obtain ⟨f1, f2, fg, f3⟩ := rm1.free hD
    refine ⟨fun i m H => m + i = items.length ∧ ∃ (w : Wd) (μ : Mem) (acc : List Kw.D × List V) (zs : List Kw.D), w1.Lw w ∧ w.gr = upd w1.gr D (.lst acc.2) ∧ RelDs X.K X.mg w acc.1 acc.2 ∧ RelM X.K X.mg S.T w μ H ∧ lcL g mt me (wipeD δ vs) (items.drop i) μ = .ok zs μ2 ∧ ys = acc.1 ++ zs, ⟨items.length, rfl, w1.grow D (.lst []), μ1, ([], []), ys, w1.grow_lw D _, rfl, .nil, rm1.grow hD _, e, rfl⟩, ?_⟩
    rintro i m H ⟨hm, w2, μ3, ⟨ds, us⟩, zs, lw, hgr, racc, rm, hz, rfl⟩
    simp only at hgr racc hz
    obtain ⟨k1, k2⟩ := wk w2 μ3 H i lw rm
    have hgD : w2.gr D = some (.lst us) := by rw [hgr, upd_same]
    by_cases hi : i < items.length
    · right
      obtain ⟨go, yl⟩ := k1 _ (List.getElem?_eq_getElem hi)
      rw [List.drop_eq_getElem_cons hi] at hz
      refine ⟨go, fun H' => ∃ (w : Wd) (μ : Mem) (acc : List Kw.D × List V) (zs' : List Kw.D), w1.Lw w ∧ w.gr = upd w1.gr D (.lst acc.2) ∧ RelDs X.K X.mg w acc.1 acc.2 ∧ RelM X.K X.mg S.T w μ H' ∧ lcL g mt me (wipeD δ vs) (items.drop (i + 1)) μ = .ok zs' μ2 ∧ ds ++ zs = acc.1 ++ zs', fun H' hN => ⟨items.length - (i + 1), by omega, by omega, hN⟩, fun x H' hy => ?_⟩
      obtain ⟨w3, le3, rm3, rd⟩ := yl x H' hy
      generalize items[i] = d at hz rd
      unfold lcL at hz
      have lw3 := lw.trans le3.lw
      have rs3 : RelSv X.K X.mg S w3 (wipeD δ vs) (L2.wipe σ vs) := (rs1.wipe vs).monoW lw3
      cases eg : g d (wipeD δ vs) μ3 with
      | nx δ4 μ4 =>
        rw [eg] at hz
        simp only at hz
        refine hn w3 _ μ3 d x _ H' _ δ4 μ4 rs3 rm3 rd eg fun σ' rs4 hw hμ => ?_
        subst hμ
        refine ⟨hw.trans (wipe_wipe σ vs), w3, δ4, μ4, rs4, rm3, ?_⟩
        cases et : mt δ4 μ4 with
        | ok b μ5 =>
          rw [et] at hz
          intro w5 b' H5 le5 rm5 hb
          cases hb
          have hgr5 : w5.gr = upd w1.gr D (.lst us) := by rw [le5.gr, le3.gr]; exact hgr
          cases b with
          | true =>
            simp only at hz
            rw [if_pos rfl]
            refine ⟨w5, δ4, μ5, rs4.mono le5, rm5, ?_⟩
            cases ee : me δ4 μ5 with
            | ok y μ6 =>
              rw [ee] at hz
              simp only at hz
              intro w6 v H6 le6 rm6 ry
              cases el : lcL g mt me (wipeD δ vs) (items.drop (i + 1)) μ6 with
              | ok zs' μ7 =>
                rw [el] at hz
                cases hz
                have hgr6 : w6.gr = upd w1.gr D (.lst us) := by rw [le6.gr]; exact hgr5
                have hg6 : w6.gr D = some (.lst us) := by rw [hgr6, upd_same]
                have racc6 : RelDs X.K X.mg w6 ds us := ((racc.mono le3).mono le5).mono le6
                refine ⟨us, rm6.gr D _ hg6, ?_, w6.grow D (.lst (us ++ [v])), μ6, (ds ++ [y], us ++ [v]), zs', ?_, ?_, ?_, rm6.regrow hg6 rfl _, el, by simp⟩
                · have l1 := racc.length
                  have l2 := hsz
                  simp only [List.length_append, List.length_cons] at l2
                  omega
                · exact ((lw3.trans le5.lw).trans le6.lw).trans (w6.grow_lw D _)
                · show upd w6.gr D _ = _
                  rw [hgr6]
                  funext a
                  by_cases ha : a = D
                  · subst ha; rw [upd_same, upd_same]
                  · rw [upd_ne ha, upd_ne ha, upd_ne ha]
                · exact RelDs.monoW (w6.grow_lw D _) (racc6.append (.one ry))
              | exc x μ' => rw [el] at hz; cases hz
              | stuck => rw [el] at hz; cases hz
            | exc x μ' => rw [ee] at hz; cases hz
            | stuck => rw [ee] at hz; cases hz
          | false =>
            simp only at hz
            rw [if_neg (by decide)]
            exact ⟨w5, μ5, (ds, us), zs, lw3.trans le5.lw, hgr5, (racc.mono le3).mono le5, rm5, hz, rfl⟩
        | exc x μ' => rw [et] at hz; cases hz
        | stuck => rw [et] at hz; cases hz
      | _ => rw [eg] at hz; cases hz
    · left
      refine ⟨k2 (by omega), ?_⟩
      rw [List.drop_eq_nil_of_le (by omega)] at hz
      unfold lcL at hz
      cases hz
      rw [List.append_nil] at h3
      have rdone := rm.done (g := w1.gr) hgD (fun a ha => by rw [hgr, upd_ne ha]) fg (fun _ => nofun)
      refine h3 (w2.done D (.lst us) w1.gr) _ H ⟨lw.n, lw.ρ, fun a o ha => ?_, lw.fr, rfl⟩ rdone (.lst upd_same (RelDs.monoW ?_ racc))
      · have : a ≠ D := fun z => by rw [z, f1] at ha; cases ha
        show upd w2.φ D _ a = _
        rw [upd_ne this]
        exact lw.φ a o ha
      · refine ⟨Nat.le_refl _, fun _ _ => rfl, fun a o ha => ?_, rfl⟩
        have : a ≠ D := fun z => by
          have := (rm.dg D _ hgD).1
          rw [← z, ha] at this; cases this
        show upd w2.φ D _ a = _
        rw [upd_ne this]
        exact ha
theorem pe_lc' (hc : X.calm = true) (hN : X.N.Nodup) (hi : PI X tg iter (TIm X S W mi)) (ok : BlkOk X.N X.env.scope scope own) (hn : NmTg X.K X.mg S (own.map (·.2)) gV g)
    (hg : ∀ (s : Shared) (H : Hp) (C : Addr) (cl : List (Str × Addr)) (fp : List Addr), PG (X.blk s H scope (compEnvC scope cl C X.env) fp) tg gV) (ht : ∀ (s : Shared) (H : Hp) (C : Addr) (cl : List (Str × Addr)) (fp : List Addr), PTs (X.blk s H scope (compEnvC scope cl C X.env) fp) ifs (TTm X S W0 mt))
    (he : ∀ (s : Shared) (H : Hp) (C : Addr) (cl : List (Str × Addr)) (fp : List Addr), PE (X.blk s H scope (compEnvC scope cl C X.env) fp) elt (TEm X S W0 me)) (hs : ∀ x, foldedSetIterable iter X.env x = pure x := by intro _; rfl) :
    PE X (.ListComp elt [⟨tg, iter, ifs, 0⟩] scope pos) (TEm X S W <| eLc mi g mt me (own.map (·.2))) :=
  PEi (pe_lc hc hN hi ok hg ht he hs) fun σ H Q h => tLc_of hn h
/-- name = [..] on one line -/
theorem ps_setLc' {i : Nat} {y : Str} {py spos : Pos} (hc : X.calm = true) (hN : X.N.Nodup) (hy : X.N[i]? = some y) (hyl : X.env.scope.names.lookup y = some .local)
    (hsw : swapsWith (.ListComp elt [⟨tg, iter, ifs, 0⟩] scope pos) (some (.Name y py)) spos.line X.env = pure true) (hi : PI X tg iter (TIm X S W mi)) (ok : BlkOk X.N X.env.scope scope own) (hn : NmTg X.K X.mg S (own.map (·.2)) gV g)
    (hg : ∀ (s : Shared) (H : Hp) (C : Addr) (cl : List (Str × Addr)) (fp : List Addr), PG (X.blk s H scope (compEnvC scope cl C X.env) fp) tg gV) (ht : ∀ (s : Shared) (H : Hp) (C : Addr) (cl : List (Str × Addr)) (fp : List Addr), PTs (X.blk s H scope (compEnvC scope cl C X.env) fp) ifs (TTm X S W0 mt))
    (he : ∀ (s : Shared) (H : Hp) (C : Addr) (cl : List (Str × Addr)) (fp : List Addr), PE (X.blk s H scope (compEnvC scope cl C X.env) fp) elt (TEm X S W0 me)) (hs : ∀ x, foldedSetIterable iter X.env x = pure x := by intro _; rfl) :
    PS X (.Assign [.Name y py] (.ListComp elt [⟨tg, iter, ifs, 0⟩] scope pos) spos) (TSm X S W <| sAsg (eLc mi g mt me (own.map (·.2))) (gNm i)) :=
  PSi (ps_setLc hc hN hy hyl hsw hi ok hg ht he hs) fun D σ H ⟨w, δ, μ, rs, rm, h⟩ => tLc_of hn ⟨w, δ, μ, (At.bindS rs rm h).mono fun v H1 ⟨w1, μ1, d, le, rd, rs1, rm1, q⟩ => q w1 _ H1 (Wd.Le.refl _) rm1 (rs1.set i rd)⟩
def tYesM : TM := fun _ μ => .ok true μ
theorem pts_nil' : PTs X [] (TTm X S W tYesM) := ⟨fun pins s σ H Q I ⟨w, δ, μ, h⟩ => pts_nil.run pins s σ H Q I (h.2.2 w true H (Wd.Le.refl _) h.2.1 rfl)⟩
theorem pts_one' {c : Expr} (h : PT X c (TTm X S W mt)) : PTs X [c] (TTm X S W mt) := pts_one h
end
end Kw

set_option Elab.async false
set_option linter.all false
set_option maxRecDepth 100000
namespace Kw
open PySem PySem.Spec PyProof.Rows L2

/-! ### new lists that change; lists that never change again -/
section
variable (K : PySem.W.Frag) (mg : Str → Option Value) (T : List (Addr × Str))
def rDsM (g : List D → Mem → Option (D × Mem)) : List V → Hp → VK → Prop := fun xs H Q => ∃ w μ ds d μ', RelM K mg T w μ H ∧ RelDs K mg w ds xs ∧ g ds μ = some (d, μ') ∧ ∀ w' v H', w.Le w' → RelM K mg T w' μ' H' → RelD K mg w' d v → Q v H'
end
section
variable {K : PySem.W.Frag} {mg : Str → Option Value} {T : List (Addr × Str)} {w : Wd} {μ : Mem} {H : Hp} {Q : VK}
theorem put_new (r : RelM K mg T w μ H) {o : HO} {b : Ob} (hb : RelOb K mg w b (some o)) (q : ∀ w' v H', w.Le w' → RelM K mg T w' (μ ++ [b]) H' → RelD K mg w' (.loc μ.length) v → Q v H') (ng : b ≠ .gone := by nofun) : ∀ p, H p = none → Q (.ref p) (upd H p o) := fun p hp => by
  have := RelD.loc (K := K) (mg := mg) (w := w.put p) (l := μ.length) (by rw [← r.n]; exact Nat.lt_succ_self _)
  rw [← r.n, Wd.put_at, r.n] at this
  exact q (w.put p) _ _ (w.put_le p) (r.put hp hb ng) this
end
def eAsM (g : List D → Mem → Option (D × Mem)) (ma : AM) : EM := fun δ μ => (ma δ μ).bind fun xs μ1 => oOfM (g xs μ1)
def gNewL : List D → Mem → Option (D × Mem) := fun ds μ => if ds.length ≤ sizeLine then some (.loc μ.length, μ ++ [.lst ds]) else none
def gNewList : List D → Mem → Option (D × Mem)
  | [x], μ => match seqOf μ x with
    | some xs => some (.loc μ.length, μ ++ [.lst xs])
    | none => none
  | _, _ => none
def eNewSl (mx : EM) (ml mh : OM) : EM := fun δ μ => (mx δ μ).bind fun x μ1 => (ml δ μ1).bind fun lo μ2 => (mh δ μ2).bind fun hi μ3 => match lstOf μ3 x with
  | some xs => .ok (.loc μ3.length) (μ3 ++ [.lst (cutD xs lo hi)])
  | none => .stuck
section
variable {X : Cx} {S : SI} {W : WX} {e : Expr} {es : List Expr} {mr : AM} {ma : EM} {ml mh : OM} {pos p p2 : Pos} {lo hi : Option Expr}
theorem pe_AsM {r : List V → Hp → VK → Prop} {g : List D → Mem → Option (D × Mem)} (h : ∀ t, PA X es t → PE X e (tCB r t)) (hr : ∀ x H Q, rDsM X.K X.mg S.T g x H Q → r x H Q) (ha : PA X es (TAm X S W mr)) : PE X e (TEm X S W <| eAsM g mr) :=
  PEi (h _ ha) fun σ H Q ⟨w, δ, μ, h⟩ => ⟨w, δ, μ, (At.bind h).mono fun x H1 ⟨w1, μ1, d, le, rd, h1⟩ => by
    obtain ⟨z, μ2, e, q⟩ := h1.optM
    exact hr _ _ _ ⟨w1, μ1, d, z, μ2, h1.2.1, rd, e, q⟩⟩
theorem pe_newL (h : PA X es (TAm X S W mr)) : PE X (.List es pos) (TEm X S W <| eAsM gNewL mr) :=
  pe_AsM (r := fun xs H1 Q => xs.length ≤ sizeLine ∧ ∀ p, H1 p = none → Q (.ref p) (upd H1 p (.lst xs))) (fun t h => pe_lst h) (fun xs H Q ⟨w, μ, ds, d, μ', r, rs, e, q⟩ => by
    unfold gNewL at e
    split at e
    · next hl =>
      cases e
      exact ⟨by rw [← rs.length]; exact hl, put_new r (.lst rs) q⟩
    · cases e) h
theorem pe_newList (hg : Gl X "list") (hm : X.mg "list" = none) (ha : PA X (e :: es) (TAm X S W mr)) (he : starEach (e :: es) X.env = (false, eval e X.env) :: starEach es X.env := by rfl) (hpl : (backTo pos (starEach es X.env)).any (·.1) = false := by rfl) :
    PE X (.Call (.Name "list" p) (e :: es) [] pos) (TEm X S W <| eAsM gNewList mr) := pe_AsM (fun t h => pe_callTy call_list_of hg hm (by decide +kernel) h (by decide) (by decide) he hpl) (fun xs H Q ⟨w, μ, ds, d, μ', r, rs, e, q⟩ => by
    unfold gNewList at e
    split at e
    · obtain ⟨x, rfl, rx⟩ := rs.one1
      split at e
      · next ys hy =>
        cases e
        obtain ⟨a, vs, rfl, h2, h3⟩ := seqOf_rel r rx hy
        exact ⟨a, vs, rfl, h2, put_new r (.lst h3) q⟩
      · cases e
    · cases e) ha
theorem pe_newSl (he : PE X e (TEm X S W ma)) (hl : PO X lo (TOm X S W ml)) (hu : PO X hi (TOm X S W mh)) : PE X (.Subscript e (.Slice lo hi none p2) pos) (TEm X S W <| eNewSl ma ml mh) :=
  PEi (pe_slice sl_list he hl hu) fun σ H Q ⟨w, δ, μ, h⟩ => ⟨w, δ, μ, (At.bind h).mono fun x H1 ⟨w1, μ1, d, le, rd, h1⟩ => ⟨w1, δ, μ1, (At.bind h1).mono fun l H2 ⟨w2, μ2, l', le2, re, h2⟩ =>
    ⟨w2, δ, μ2, (At.bind h2).mono fun u H3 ⟨w3, μ3, u', le3, ru, h3⟩ => by
      cases re; cases ru
      have rx := (rd.mono le2).mono le3
      have r := h3.2.1
      have h4 := h3.2.2
      split at h4
      · next ys hy =>
        obtain ⟨a, vs, rfl, h5, h6⟩ := lstOf_rel r rx hy
        exact ⟨a, vs, rfl, h5, put_new r (.lst (h6.cutV _ _)) h4⟩
      · exact h4.elim⟩⟩⟩
end

/-- a list, a dict in slot i: it never changes again -/
def sFrz (i : Nat) : SM := fun δ μ => match δ[i]? with
  | some (some (.loc l)) => match μ[l]? with
    | some (.lst xs) => .nx (δ.set i (some (.lst xs))) (μ.set l .gone)
    | _ => .stuck
  | _ => .nx δ μ
def Wd.frz (w : Wd) (p : Addr) (o : HO) : Wd := { w with φ := upd w.φ p o }
section
variable {K : PySem.W.Frag} {mg : Str → Option Value} {T : List (Addr × Str)} {w : Wd} {μ : Mem} {H : Hp}
theorem RelM.freeze (r : RelM K mg T w μ H) {l : Nat} {b : Ob} {o : HO} (hl : μ[l]? = some b) (ng : b ≠ .gone) (ho : H (w.ρ l) = some o) : w.Le (w.frz (w.ρ l) o) ∧ RelM K mg T (w.frz (w.ρ l) o) (μ.set l .gone) H := by
  obtain ⟨hb, hn⟩ := r.ob l b hl
  obtain ⟨n1, n2, n3⟩ := hn ng
  have hlt : l < μ.length := (List.getElem?_eq_some_iff.mp hl).1
  have hc : chg o = true := by rw [ho] at hb; exact hb.chg ng
  have ne : ∀ {a u}, w.φ a = some u → a ≠ w.ρ l := fun {a u} h e => by rw [e, n1] at h; cases h
  have le : w.Le (w.frz (w.ρ l) o) := ⟨Nat.le_refl _, fun _ _ => rfl, fun a u h => by show upd w.φ _ o a = _; rw [upd_ne (ne h)]; exact h, rfl, rfl⟩
  refine ⟨le, ⟨by simp [Wd.frz, r.n], fun a u h => ?_, r.fr, r.gr, fun a u h => ?_, fun a u h => ?_, fun l' b' hb' => ?_, fun l' hl' => ?_, r.inj, r.tabs, fun a ps => ?_⟩⟩
  · have h' : upd w.φ (w.ρ l) o a = some u := h
    by_cases e : a = w.ρ l
    · subst e; rw [upd_same] at h'; cases h'; exact ho
    · rw [upd_ne e] at h'; exact r.φ a u h'
  · have h' : w.fr a = some u := h
    show upd w.φ _ o a = none
    rw [upd_ne (fun e => by rw [e, n2] at h'; cases h')]; exact r.dj a u h
  · have h' : w.gr a = some u := h
    refine ⟨?_, (r.dg a u h).2⟩
    show upd w.φ _ o a = none
    rw [upd_ne (fun e => by rw [e, n3] at h'; cases h')]; exact (r.dg a u h).1
  · by_cases e : l = l'
    · subst e
      rw [List.getElem?_set_self hlt] at hb'
      cases hb'
      exact ⟨by show RelOb K mg _ .gone (H (w.ρ l)); rw [ho]; exact .gone, fun h => absurd rfl h⟩
    · rw [List.getElem?_set_ne e] at hb'
      obtain ⟨k1, k2⟩ := r.ob l' b' hb'
      refine ⟨k1.mono le, fun ng' => ?_⟩
      obtain ⟨m1, m2, m3⟩ := k2 ng'
      refine ⟨?_, m2, m3⟩
      have hlt' : l' < μ.length := (List.getElem?_eq_some_iff.mp hb').1
      show upd w.φ _ o (w.ρ l') = none
      rw [upd_ne (fun z => e (r.inj l l' (by rw [r.n]; exact hlt) (by rw [r.n]; exact hlt') z.symm))]
      exact m1
  · show ∃ u, upd w.φ (w.ρ l) o (w.ρ l') = some u
    by_cases z : w.ρ l' = w.ρ l
    · rw [z, upd_same]; exact ⟨o, rfl⟩
    · rw [upd_ne z]
      by_cases e : l = l'
      · subst e; exact absurd rfl z
      · rw [List.getElem?_set_ne e] at hl'
        exact r.gn l' hl'
  · show upd w.φ _ o a ≠ _
    by_cases e : a = w.ρ l
    · subst e; rw [upd_same]; intro z; cases z; cases hc
    · rw [upd_ne e]; exact r.nt a ps
end
section
variable {X : Cx} {S : SI} {W : WX} {sts : List Stmt} {m : SM}
theorem tS_frz {D : Ends} {σ : L2.St} {H : Hp} {i : Nat} (h : TSm X S W (sSeq (sFrz i) m) D σ H) : TSm X S W m D σ H := by
  obtain ⟨w, δ, μ, rs, rm, h⟩ := h
  unfold sSeq sFrz at h
  split at h
  · next l hl =>
    split at h
    · next xs hx =>
      obtain ⟨vs, h1, h2⟩ := rm.lst hx
      obtain ⟨le, rm'⟩ := rm.freeze hx nofun h1
      obtain ⟨v, hv, rv⟩ := rs.2 i _ hl
      refine ⟨_, _, _, ?_, rm', STo.mono le h⟩
      have hv' : v = .ref (w.ρ l) := by cases rv; rfl
      have rd : RelD X.K X.mg (w.frz (w.ρ l) (.lst vs)) (.lst xs) v := by rw [hv']; exact .lst upd_same (RelDs.mono le h2)
      have := (rs.mono le).set i rd
      rwa [show σ.set i (some v) = σ from by
        refine List.ext_getElem? fun j => ?_
        by_cases e : i = j
        · subst e; rw [List.getElem?_set_self (by have := (List.getElem?_eq_some_iff.mp hv).1; exact this), hv]
        · rw [List.getElem?_set_ne e]] at this
    · exact h.elim
  · exact ⟨w, δ, μ, rs, rm, h⟩
theorem pss_frz (i : Nat) (h : PSs X sts (TSm X S W m)) : PSs X sts (TSm X S W <| sSeq (sFrz i) m) := PSsi h fun D σ H q => tS_frz q
end

/-! ### o[i] = v of a list -/
def gSet : D → D → D → Mem → Option Mem
  | .loc l, .int i, v, μ => match μ[l]? with
    | some (.lst xs) => match ixN xs.length i with
      | some j => some (μ.set l (.lst (xs.set j v)))
      | none => none
    | _ => none
  | _, _, _, _ => none
def gSubM (mo mi : EM) : GM := fun v δ μ => (mo δ μ).bindS δ fun o μ1 => (mi δ μ1).bindS δ fun i μ2 => match gSet o i v μ2 with
  | some μ3 => .nx δ μ3
  | none => .stuck
section
variable {X : Cx} {S : SI} {W : WX} {o i tg : Expr} {mo mi : EM}
theorem pg_sub' (h : ∀ to ti, PE X o to → PE X i ti → PG X tg (L2.gSub to ti rSetL)) (ho : PE X o (TEm X S W mo)) (hi : PE X i (TEm X S W mi)) : PG X tg (TGm X S W <| gSubM mo mi) :=
  PGi (h _ _ ho hi) fun v σ H Q ⟨D, w, δ, μ, d, rs, rm, rd, q, hq⟩ => ⟨w, δ, μ, (At.bindS rs rm q).mono fun x H1 ⟨w1, μ1, x', le1, rx, rs1, rm1, q1⟩ => ⟨w1, δ, μ1, (At.bindS rs1 rm1 q1).mono fun y H2 ⟨w2, μ2, y', le2, ry, rs2, rm2, q2⟩ => by
    split at q2
    · next μ3 e =>
      unfold gSet at e
      split at e
      · next l k v' =>
        cases rx with
        | loc hln =>
        cases ry
        split at e
        · next xs hx =>
          split at e
          · next j hj =>
            cases e
            obtain ⟨vs, h1, h2⟩ := rm2.lst hx
            have hρ := le2.ρ l hln
            refine ⟨w2.ρ l, vs, k, j, by rw [hρ], rfl, h1, by rw [← h2.length]; exact hj, ?_⟩
            exact hq _ _ (q2 w2 σ _ (Wd.Le.refl _) (rm2.write hx nofun (.lst (h2.set j ((rd.mono le1).mono le2)))) rs2)
          · cases e
        · cases e
      · cases e
    · exact q2.elim⟩⟩
end
end Kw

set_option Elab.async false
set_option linter.all false
set_option maxRecDepth 100000
namespace Kw
open PySem PySem.Spec PyProof.Rows L2

/-! ### what a call sees of the caller's places, what it gives back -/
mutual
/-- no place from k on (sc: nothing lent either) -/
def locB (sc : Bool) (k : Nat) : D → Bool
  | .tup xs => locBs sc k xs
  | .lst xs => locBs sc k xs
  | .scr xs => !sc && locBs sc k xs
  | .loc l => decide (l < k)
  | .non => true
  | .bl _ => true
  | .int _ => true
  | .str _ => true
  | .glb _ => true
  | .ty _ => true
  | _ => false
def locBs (sc : Bool) (k : Nat) : List D → Bool
  | [] => true
  | d :: ds => locB sc k d && locBs sc k ds
end
def locBk (sc : Bool) (k : Nat) : List (D × D) → Bool
  | [] => true
  | p :: ps => locB sc k p.2 && locBk sc k ps
def obB (k : Nat) : Ob → Bool
  | .lst xs => locBs false k xs
  | .dct kvs => locBs false k (kvs.map (·.2))
  | .ins _ fs => locBs false k (fs.map (·.2))
  | .gone => true
mutual
def frzW (f : Nat → Option D) : D → Option D
  | .tup xs => match frzWs f xs with
    | some ys => some (.tup ys)
    | none => none
  | .lst xs => match frzWs f xs with
    | some ys => some (.lst ys)
    | none => none
  | .scr xs => match frzWs f xs with
    | some ys => some (.scr ys)
    | none => none
  | .loc l => f l
  | .non => some .non
  | .bl b => some (.bl b)
  | .int i => some (.int i)
  | .str x => some (.str x)
  | .glb x => some (.glb x)
  | .ty n => some (.ty n)
  | _ => none
def frzWs (f : Nat → Option D) : List D → Option (List D)
  | [] => some []
  | d :: ds => match frzW f d, frzWs f ds with
    | some p, some ps => some (p :: ps)
    | _, _ => none
end
def frzL (μ : Mem) : Nat → Nat → Option D
  | 0, _ => none
  | n + 1, l => match μ[l]? with
    | some (.lst xs) => match frzWs (frzL μ n) xs with
      | some ys => some (.scr ys)
      | none => none
    | _ => none
abbrev FM := List D → Mem → Out D
/-- a call that sees the places -/
def callM (m : FM) (ds : List D) (μ : Mem) : Out D := match m ds μ with
  | .ok d μ' => if (locB false μ.length d && (μ'.take μ.length).all (obB μ.length)) = true then .ok d (μ'.take μ.length) else .ok d μ'
  | .exc x μ' => if (locBs false μ.length (x.fs.map (·.2)) && (μ'.take μ.length).all (obB μ.length)) = true then .exc x (μ'.take μ.length) else .exc x μ'
  | .stuck => .stuck
/-- a call that changes no place: it begins with none; places among the arguments are lent -/
def callP (m : FM) (ds : List D) (μ : Mem) : Out D := if locBs false 0 ds = true then match m ds [] with
    | .ok d _ => if locB false 0 d = true then .ok d μ else .stuck
    | .exc x _ => if locBs false 0 (x.fs.map (·.2)) = true then .exc x μ else .stuck
    | .stuck => .stuck
  else match frzWs (frzL μ 4) ds with
    | some es => match m es [] with
      | .ok d _ => if locB true 0 d = true then .ok d μ else .stuck
      | .exc x _ => if locBs true 0 (x.fs.map (·.2)) = true then .exc x μ else .stuck
      | .stuck => .stuck
    | none => .stuck

section
variable {K : PySem.W.Frag} {mg : Str → Option Value} {T : List (Addr × Str)} {w w' : Wd} {μ : Mem} {H : Hp}
/-- from a world into one with the same laid things, the places below k, what was lent (unless sc) -/
structure Into (sc : Bool) (k : Nat) (w w' : Wd) : Prop where
  φ : ∀ a o, w.φ a = some o → w'.φ a = some o
  fr : sc = false → w'.fr = w.fr
  ρ : ∀ l, l < k → l < w.n → l < w'.n ∧ w'.ρ l = w.ρ l
mutual
theorem RelD.into {sc : Bool} {k : Nat} (t : Into sc k w w') : ∀ (d : D) (v : V), RelD K mg w d v → locB sc k d = true → RelD K mg w' d v
  | .non, _, h, _ => by cases h; exact .non
  | .bl b, _, h, _ => by cases h; exact .bl b
  | .int b, _, h, _ => by cases h; exact .int b
  | .str b, _, h, _ => by cases h; exact .str b
  | .ty b, _, h, _ => by cases h; exact .ty b
  | .glb b, _, h, _ => by cases h with | glb e => exact .glb e
  | .tup xs, _, h, hb => by
    cases h with
    | tup e rs => exact .tup (sqT_mono t.φ e) (RelDs.into t xs _ rs (by simpa only [locB] using hb))
  | .lst xs, _, h, hb => by
    cases h with
    | lst e rs => exact .lst (t.φ _ _ e) (RelDs.into t xs _ rs (by simpa only [locB] using hb))
  | .scr xs, _, h, hb => by
    cases h with
    | scr e rs =>
      simp only [locB, Bool.and_eq_true, Bool.not_eq_true'] at hb
      refine .scr (e.imp (sqL_mono t.φ) fun e => by rw [t.fr hb.1]; exact e) (RelDs.into t xs _ rs hb.2)
  | .loc l, _, h, hb => by
    cases h with
    | loc hl =>
      obtain ⟨h1, h2⟩ := t.ρ l (by simpa only [locB, decide_eq_true_eq] using hb) hl
      rw [← h2]
      exact .loc h1
  | .dct _, _, _, hb => by cases hb
  | .brd _, _, _, hb => by cases hb
  | .lam, _, _, hb => by cases hb
  | .exc _ _, _, _, hb => by cases hb
theorem RelDs.into {sc : Bool} {k : Nat} (t : Into sc k w w') : ∀ (ds : List D) (vs : List V), RelDs K mg w ds vs → locBs sc k ds = true → RelDs K mg w' ds vs
  | [], _, h, _ => by cases h; exact .nil
  | d :: ds, _, h, hb => by
    cases h with
    | cons r rs =>
      simp only [locBs, Bool.and_eq_true] at hb
      exact .cons (RelD.into t d _ r hb.1) (RelDs.into t ds _ rs hb.2)
end
theorem RelOb.into {k : Nat} (t : Into false k w w') {b : Ob} {o : Option HO} (h : RelOb K mg w b o) (hb : obB k b = true) : RelOb K mg w' b o := by
  cases h with
  | lst r => exact .lst (RelDs.into t _ _ r hb)
  | dct e r => exact .dct e (RelDs.into t _ _ r hb)
  | ins e r => exact .ins e ⟨r.1, RelDs.into t _ _ r.2 hb⟩
  | gone => exact .gone
theorem RelX.into {sc : Bool} {k : Nat} (t : Into sc k w w') {x : Xn} {c : Value} {d : Option Addr} (h : RelX K mg w x c d) (hb : locBs sc k (x.fs.map (·.2)) = true) : RelX K mg w' x c d := by
  obtain ⟨C, dd, gs, a, b, c, d, e⟩ := h
  exact ⟨C, dd, gs, a, b, c, t.φ _ _ d, e.1, RelDs.into t _ _ e.2 hb⟩
/-- the places from k on forgotten -/
def Wd.trunc (w : Wd) (k : Nat) : Wd := { w with n := k }
theorem RelM.trunc {k : Nat} (r : RelM K mg T w μ H) (hk : k ≤ μ.length) (hb : (μ.take k).all (obB k) = true) : RelM K mg T (w.trunc k) (μ.take k) H := by
  have t : Into false k w (w.trunc k) := ⟨fun _ _ h => h, fun _ => rfl, fun l h _ => ⟨h, rfl⟩⟩
  refine ⟨by simp [Wd.trunc]; omega, r.φ, r.fr, r.gr, r.dj, r.dg, fun l b hl => ?_, fun l hl => ?_, fun l l' h h' e => ?_, r.tabs, r.nt⟩
  · have hb' : b ∈ μ.take k := List.mem_of_getElem? hl
    have hlk : l < k := by have := (List.getElem?_eq_some_iff.mp hl).1; simp at this; omega
    rw [List.getElem?_take_of_lt hlk] at hl
    obtain ⟨h1, h2⟩ := r.ob l b hl
    exact ⟨h1.into t (List.all_eq_true.mp hb b hb'), h2⟩
  · have hlk : l < k := by have := (List.getElem?_eq_some_iff.mp hl).1; simp at this; omega
    rw [List.getElem?_take_of_lt hlk] at hl
    exact r.gn l hl
  · have h1 : l < k := h
    have h2 : l' < k := h'
    exact r.inj l l' (by rw [r.n]; omega) (by rw [r.n]; omega) e

/-- the caller's places, as a call that changes none sees them: lent or apart -/
noncomputable def cells (w : Wd) (H : Hp) : Hp := fun a => open Classical in if w.φ a = none ∧ w.fr a = none ∧ w.gr a = none ∧ ∃ l, l < w.n ∧ w.ρ l = a then H a else none
noncomputable def join (f g : Hp) : Hp := fun a => match f a with
  | some o => some o
  | none => g a
theorem cells_some {a : Addr} {o : HO} (h : cells w H a = some o) : w.φ a = none ∧ w.fr a = none ∧ w.gr a = none ∧ H a = some o := by
  unfold cells at h
  split at h
  · next hc => exact ⟨hc.1, hc.2.1, hc.2.2.1, h⟩
  · cases h
theorem cells_at (r : RelM K mg T w μ H) {l : Nat} {b : Ob} (hl : μ[l]? = some b) (ng : b ≠ .gone) : cells w H (w.ρ l) = H (w.ρ l) := by
  have hlt : l < w.n := by rw [r.n]; exact (List.getElem?_eq_some_iff.mp hl).1
  obtain ⟨h1, h2, h3⟩ := (r.ob l b hl).2 ng
  unfold cells
  rw [if_pos ⟨h1, h2, h3, l, hlt, rfl⟩]
noncomputable def Wd.lend (w : Wd) (H : Hp) : Wd := { n := 0, ρ := w.ρ, φ := w.φ, fr := join w.fr (cells w H), gr := w.gr }
noncomputable def Wd.apart (w : Wd) (H : Hp) : Wd := { n := 0, ρ := w.ρ, φ := w.φ, fr := w.fr, gr := join w.gr (cells w H) }
theorem join_some {f g : Hp} {a : Addr} {o : HO} (h : join f g a = some o) : f a = some o ∨ (f a = none ∧ g a = some o) := by
  unfold join at h
  split at h
  · next u hu => cases h; exact .inl hu
  · next hu => exact .inr ⟨hu, h⟩
theorem RelM.lend (r : RelM K mg T w μ H) : RelM K mg T (w.lend H) [] H := by
  refine ⟨rfl, r.φ, fun a o h => ?_, r.gr, fun a o h => ?_, fun a o h => ⟨(r.dg a o h).1, ?_⟩, fun l b h => by simp at h, fun l h => by simp at h, fun l l' h => absurd h (Nat.not_lt_zero _), r.tabs, r.nt⟩
  · rcases join_some h with h | ⟨_, h⟩
    · exact r.fr a o h
    · exact (cells_some h).2.2.2
  · rcases join_some h with h | ⟨_, h⟩
    · exact r.dj a o h
    · exact (cells_some h).1
  · have h' : w.gr a = some o := h
    show join w.fr (cells w H) a = none
    unfold join
    rw [(r.dg a o h).2]
    simp only
    unfold cells
    rw [if_neg fun hc => by rw [hc.2.2.1] at h'; cases h']
theorem RelM.apart (r : RelM K mg T w μ H) : RelM K mg T (w.apart H) [] H := by
  refine ⟨rfl, r.φ, r.fr, fun a o h => ?_, r.dj, fun a o h => ?_, fun l b h => by simp at h, fun l h => by simp at h, fun l l' h => absurd h (Nat.not_lt_zero _), r.tabs, r.nt⟩
  · rcases join_some h with h | ⟨_, h⟩
    · exact r.gr a o h
    · exact (cells_some h).2.2.2
  · rcases join_some h with h | ⟨_, h⟩
    · exact r.dg a o h
    · exact ⟨(cells_some h).1, (cells_some h).2.1⟩
/-- back in the caller -/
def Wd.back (w w1 : Wd) : Wd := { w with φ := w1.φ }
theorem RelM.back {w1 : Wd} {μ1 : Mem} {H1 : Hp} (r : RelM K mg T w μ H) (r1 : RelM K mg T w1 μ1 H1) (hφ : ∀ a o, w.φ a = some o → w1.φ a = some o) (hf : ∀ a o, w.fr a = some o → H1 a = some o ∧ w1.φ a = none) (hg : ∀ a o, w.gr a = some o → H1 a = some o ∧ w1.φ a = none)
    (hc : ∀ a o, cells w H a = some o → H1 a = some o ∧ w1.φ a = none) : w.Le (w.back w1) ∧ RelM K mg T (w.back w1) μ H1 := by
  have le : w.Le (w.back w1) := ⟨Nat.le_refl _, fun _ _ => rfl, hφ, rfl, rfl⟩
  refine ⟨le, r.n, r1.φ, fun a o h => (hf a o h).1, fun a o h => (hg a o h).1, fun a o h => (hf a o h).2, fun a o h => ⟨(hg a o h).2, (r.dg a o h).2⟩, fun l b hl => ?_, fun l hl => (r.gn l hl).imp fun u h => hφ _ _ h, r.inj, r1.tabs, r1.nt⟩
  obtain ⟨h1, h2⟩ := r.ob l b hl
  by_cases ng : b = .gone
  · subst ng
    obtain ⟨u, hu⟩ := r.gn l hl
    have := r1.φ _ _ (hφ _ _ hu)
    exact ⟨by show RelOb K mg _ .gone (H1 (w.ρ l)); rw [this]; exact .gone, fun z => absurd rfl z⟩
  · obtain ⟨k1, k2, k3⟩ := h2 ng
    have hcell := cells_at r hl ng
    cases e : H (w.ρ l) with
    | none => rw [e] at h1; cases h1
    | some o =>
      rw [e] at hcell
      obtain ⟨m1, m2⟩ := hc _ _ hcell
      refine ⟨?_, fun _ => ⟨m2, k2, k3⟩⟩
      show RelOb K mg _ b (H1 (w.ρ l))
      rw [m1, ← e]
      exact h1.mono le
theorem join_l {f g : Hp} {a : Addr} {o : HO} (h : f a = some o) : join f g a = some o := by unfold join; rw [h]
theorem join_r {f g : Hp} {a : Addr} {o : HO} (h : f a = none) (h' : g a = some o) : join f g a = some o := by unfold join; rw [h]; exact h'
theorem RelM.back_lend {w1 : Wd} {μ1 : Mem} {H1 : Hp} (r : RelM K mg T w μ H) (le : (w.lend H).Le w1) (r1 : RelM K mg T w1 μ1 H1) : w.Le (w.back w1) ∧ RelM K mg T (w.back w1) μ H1 := by
  have fr1 : ∀ a o, join w.fr (cells w H) a = some o → H1 a = some o ∧ w1.φ a = none := fun a o h => by
    have h' : w1.fr a = some o := by rw [le.fr]; exact h
    exact ⟨r1.fr a o h', r1.dj a o h'⟩
  refine r.back r1 le.φ (fun a o h => fr1 a o (join_l h)) (fun a o h => ?_) fun a o h => fr1 a o (join_r (cells_some h).2.1 h)
  have h' : w1.gr a = some o := by rw [le.gr]; exact h
  exact ⟨r1.gr a o h', (r1.dg a o h').1⟩
theorem RelM.back_apart {w1 : Wd} {μ1 : Mem} {H1 : Hp} (r : RelM K mg T w μ H) (le : (w.apart H).Le w1) (r1 : RelM K mg T w1 μ1 H1) : w.Le (w.back w1) ∧ RelM K mg T (w.back w1) μ H1 := by
  have gr1 : ∀ a o, join w.gr (cells w H) a = some o → H1 a = some o ∧ w1.φ a = none := fun a o h => by
    have h' : w1.gr a = some o := by rw [le.gr]; exact h
    exact ⟨r1.gr a o h', (r1.dg a o h').1⟩
  refine r.back r1 le.φ (fun a o h => ?_) (fun a o h => gr1 a o (join_l h)) fun a o h => gr1 a o (join_r (cells_some h).2.2.1 h)
  have h' : w1.fr a = some o := by rw [le.fr]; exact h
  exact ⟨r1.fr a o h', r1.dj a o h'⟩
mutual
theorem frzW_rel (r : RelM K mg T w μ H) {f : Nat → Option D} (hf : ∀ l d, l < w.n → f l = some d → RelD K mg (w.lend H) d (.ref (w.ρ l))) : ∀ (d : D) (v : V) (e : D), RelD K mg w d v → frzW f d = some e → RelD K mg (w.lend H) e v
  | .non, _, _, rd, h => by cases rd; cases h; exact .non
  | .bl b, _, _, rd, h => by cases rd; cases h; exact .bl b
  | .int i, _, _, rd, h => by cases rd; cases h; exact .int i
  | .str i, _, _, rd, h => by cases rd; cases h; exact .str i
  | .ty i, _, _, rd, h => by cases rd; cases h; exact .ty i
  | .glb i, _, _, rd, h => by cases rd with | glb e => cases h; exact .glb e
  | .tup xs, _, _, rd, h => by
    cases rd with
    | tup e rs =>
      simp only [frzW] at h
      split at h
      · next ps hp => cases h; exact .tup e (frzWs_rel r hf xs _ _ rs hp)
      · cases h
  | .lst xs, _, _, rd, h => by
    cases rd with
    | lst e rs =>
      simp only [frzW] at h
      split at h
      · next ps hp => cases h; exact .lst e (frzWs_rel r hf xs _ _ rs hp)
      · cases h
  | .scr xs, _, _, rd, h => by
    cases rd with
    | scr e rs =>
      simp only [frzW] at h
      split at h
      · next ps hp => cases h; exact .scr (e.imp id fun e => join_l e) (frzWs_rel r hf xs _ _ rs hp)
      · cases h
  | .loc l, _, _, rd, h => by
    cases rd with
    | loc hl => exact hf l _ hl h
  | .dct _, _, _, _, h => by cases h
  | .brd _, _, _, _, h => by cases h
  | .lam, _, _, _, h => by cases h
  | .exc _ _, _, _, _, h => by cases h
theorem frzWs_rel (r : RelM K mg T w μ H) {f : Nat → Option D} (hf : ∀ l d, l < w.n → f l = some d → RelD K mg (w.lend H) d (.ref (w.ρ l))) : ∀ (ds : List D) (vs : List V) (es : List D), RelDs K mg w ds vs → frzWs f ds = some es → RelDs K mg (w.lend H) es vs
  | [], _, _, rd, h => by cases rd; cases h; exact .nil
  | d :: ds, _, _, rd, h => by
    cases rd with
    | cons r1 r2 =>
      simp only [frzWs] at h
      split at h
      · next p ps hp hps => cases h; exact .cons (frzW_rel r hf d _ _ r1 hp) (frzWs_rel r hf ds _ _ r2 hps)
      · cases h
end
theorem frzL_rel (r : RelM K mg T w μ H) : ∀ (n l : Nat) (d : D), l < w.n → frzL μ n l = some d → RelD K mg (w.lend H) d (.ref (w.ρ l))
  | 0, l, p, _, h => by cases h
  | n + 1, l, p, _, h => by
    simp only [frzL] at h
    split at h
    · next xs q =>
      obtain ⟨vs, h1, h2⟩ := r.lst q
      split at h
      · next ps hp =>
        cases h
        have hc : cells w H (w.ρ l) = some (.lst vs) := by rw [cells_at r q nofun]; exact h1
        exact .scr (.inr (join_r (cells_some hc).2.1 hc)) (frzWs_rel r (frzL_rel r n) _ _ _ h2 hp)
      · cases h
    · cases h
end

/-! ### what a def promises -/
section
variable (K : PySem.W.Frag) (mg : Str → Option Value) (T : List (Addr × Str))
/-- a call's end, by data -/
def FTo (w : Wd) (Q : VK) (E : XK) (o : Out D) : Prop := o.to (fun d μ' => ∀ w' v H', w.Le w' → RelM K mg T w' μ' H' → RelD K mg w' d v → Q v H') (fun x μ' => ∀ w' cls dd H', w.Le w' → RelM K mg T w' μ' H' → RelX K mg w' x cls dd → E cls dd H')
/-- n arguments; it does what m says -/
def spM (n : Nat) (m : FM) : Sp := fun vs H Q E => vs.length = n ∧ ∃ w μ ds, RelM K mg T w μ H ∧ RelDs K mg w ds vs ∧ FTo K mg T w Q E (m ds μ)
end
section
variable {K : PySem.W.Frag} {mg : Str → Option Value} {T : List (Addr × Str)} {w : Wd} {μ : Mem} {H : Hp} {Q : VK} {E : XK} {m : FM} {ds : List D} {vs : List V} {n : Nat}
theorem sp_callM (hl : vs.length = n) (r : RelM K mg T w μ H) (rs : RelDs K mg w ds vs) (h : FTo K mg T w Q E (callM m ds μ)) : spM K mg T n m vs H Q E := by
  refine ⟨hl, w, μ, ds, r, rs, ?_⟩
  unfold callM at h
  have into : ∀ {w' : Wd}, w.Le w' → Into false μ.length w' (w'.trunc μ.length) := fun le => ⟨fun _ _ h => h, fun _ => rfl, fun l h _ => ⟨h, rfl⟩⟩
  have lt : ∀ {w' : Wd}, w.Le w' → w.Le (w'.trunc μ.length) := fun le => ⟨by rw [r.n]; exact Nat.le_refl _, le.ρ, le.φ, le.fr, le.gr⟩
  cases e : m ds μ with
  | stuck => rw [e] at h; exact h
  | ok d μ' =>
    rw [e] at h
    simp only at h
    split at h
    · next hc =>
      rw [Bool.and_eq_true] at hc
      intro w' v H' le rm rd
      exact h (w'.trunc μ.length) v H' (lt le) (rm.trunc (by rw [← rm.n, ← r.n]; exact le.n) hc.2) (RelD.into (into le) _ _ rd hc.1)
    · exact h
  | exc x μ' =>
    rw [e] at h
    simp only at h
    split at h
    · next hc =>
      rw [Bool.and_eq_true] at hc
      intro w' c dd H' le rm rx
      exact h (w'.trunc μ.length) c dd H' (lt le) (rm.trunc (by rw [← rm.n, ← r.n]; exact le.n) hc.2) (rx.into (into le) hc.1)
    · exact h
theorem sp_callP (hl : vs.length = n) (r : RelM K mg T w μ H) (rs : RelDs K mg w ds vs) (h : FTo K mg T w Q E (callP m ds μ)) : spM K mg T n m vs H Q E := by
  unfold callP at h
  have hρ : ∀ {w1 : Wd} {sc : Bool}, (∀ a o, w1.φ a = some o → (w.back w1).φ a = some o) := fun a o h => h
  split at h
  · next hb =>
    have rs' : RelDs K mg (w.apart H) ds vs := RelDs.into (w := w) (w' := w.apart H) (sc := false) (k := 0) ⟨fun _ _ h => h, fun _ => rfl, fun l h => absurd h (Nat.not_lt_zero _)⟩ _ _ rs hb
    refine ⟨hl, w.apart H, [], ds, r.apart, rs', ?_⟩
    have into : ∀ {w1 : Wd}, (w.apart H).Le w1 → Into false 0 w1 (w.back w1) := fun le => ⟨fun _ _ h => h, fun _ => le.fr.symm, fun l h => absurd h (Nat.not_lt_zero _)⟩
    cases e : m ds [] with
    | stuck => rw [e] at h; exact h
    | ok d μ' =>
      rw [e] at h
      simp only at h
      split at h
      · next hc =>
        intro w1 v H1 le rm rd
        obtain ⟨le2, rm2⟩ := r.back_apart le rm
        exact h (w.back w1) v H1 le2 rm2 (RelD.into (into le) _ _ rd hc)
      · exact h.elim
    | exc x μ' =>
      rw [e] at h
      simp only at h
      split at h
      · next hc =>
        intro w1 c dd H1 le rm rx
        obtain ⟨le2, rm2⟩ := r.back_apart le rm
        exact h (w.back w1) c dd H1 le2 rm2 (rx.into (into le) hc)
      · exact h.elim
  · split at h
    · next es he =>
      refine ⟨hl, w.lend H, [], es, r.lend, frzWs_rel r (frzL_rel r 4) _ _ _ rs he, ?_⟩
      have into : ∀ {w1 : Wd}, Into true 0 w1 (w.back w1) := ⟨fun _ _ h => h, (fun h => nomatch h), fun l h => absurd h (Nat.not_lt_zero _)⟩
      cases e : m es [] with
      | stuck => rw [e] at h; exact h
      | ok d μ' =>
        rw [e] at h
        simp only at h
        split at h
        · next hc =>
          intro w1 v H1 le rm rd
          obtain ⟨le2, rm2⟩ := r.back_lend le rm
          exact h (w.back w1) v H1 le2 rm2 (RelD.into into _ _ rd hc)
        · exact h.elim
      | exc x μ' =>
        rw [e] at h
        simp only at h
        split at h
        · next hc =>
          intro w1 c dd H1 le rm rx
          obtain ⟨le2, rm2⟩ := r.back_lend le rm
          exact h (w.back w1) c dd H1 le2 rm2 (rx.into into hc)
        · exact h.elim
    · exact h.elim
end
end Kw

set_option Elab.async false
set_option linter.all false
set_option maxRecDepth 100000
namespace Kw
open PySem PySem.Spec PyProof.Rows L2

/-! ### a def, where no guard stands above (repr of lists asks it) -/
structure FnG (P : Program) (w : World) (K : PySem.W.Frag) (mg : Str → Option Value) (base : Heap) (k : Nat) (f : Addr) (fd : FuncData) (ps : List Str) (sp : Sp) : Prop where
  len : ∀ vs H Q E, sp vs H Q E → vs.length = ps.length
  run : ∀ (A : Around) (outer : List Env) (s : Shared) (H : Hp) (args : Args) (us : List Value) (vs : List V) (Q : VK) (E : XK), Room k A → A.guards = some [] → Env0 P w K mg base A outer s H → BindsTo s fd args (ps.zip us) → Vals vs us → sp vs H Q E →
    codeAny (model P w) A (.call (.ref f) args) (CR (L2.CX P w) outer P w H s Q E) s
theorem FnG.mono {P : Program} {w : World} {K : PySem.W.Frag} {mg : Str → Option Value} {base : Heap} {j k : Nat} {f : Addr} {fd : FuncData} {ps : List Str} {sp : Sp} (F : FnG P w K mg base j f fd ps sp) (h : j ≤ k) : FnG P w K mg base k f fd ps sp :=
  ⟨F.len, fun A outer s H args us vs Q E hr => F.run A outer s H args us vs Q E (hr.mono h)⟩
section
variable {X : Cx} {k : Nat} {f : Addr} {fd : FuncData} {ps ks : List Str} {sp : Sp} {W : WX} {x : Str} {p pos : Pos} {e : Expr} {es : List Expr} {kws : List Keyword} {t tk : TA}
theorem run_G {pins : List (Addr × Obj)} {σ : L2.St} {H : Hp} {s : Shared} {Q : VK} {us : List Value} {vs : List V} {args : Args} (F : FnG X.prog X.w X.K X.mg X.base k f fd ps sp) (hr : Room k X.A) (hgd : X.A.guards = some []) (hx : PassesAt (L2.CX X.prog X.w) X σ (WE W σ))
    (I : Inv X pins σ H s) (hb : BindsTo s fd args (ps.zip us)) (r : Vals vs us) (h : sp vs H Q (WE W σ)) : codeAny (model X.prog X.w) X.A (.call (.ref f) args) (fun r s' => match r with
      | .ok (.ret u) => EP X pins σ Q u s'
      | .ok _ => False
      | .error e => X.xe e s') s := by
  refine codeAny_mono (F.run X.A X.stack s H args us vs Q _ hr hgd I.env0 hb r h) fun r s' hq => ?_
  cases r with
  | error e => exact hx pins H s e s' I hq
  | ok fl =>
    cases fl with
    | ret u => exact I.after hq
    | next => exact False.elim hq
    | brk => exact False.elim hq
    | cont => exact False.elim hq
theorem call_of {M : Model} {A : Around} {f : Value} {us : List Value} {kw : List (Str × Value)} {Q E : Value → Shared → Prop} {s : Shared} (h : codeAny M A (.call f ⟨us, kw⟩) (fun r s' => match r with
      | .ok (.ret u) => Q u s'
      | .ok _ => False
      | .error e => E e s') s) : wpAny M A (call f us kw) Q E s :=
  wpAny_call (codeAny_mono h fun r s' hq => by
    cases r with
    | error e => exact hq
    | ok fl => cases fl <;> first | exact hq | exact False.elim hq)
theorem pe_G (F : FnG X.prog X.w X.K X.mg X.base k f fd ps sp) (hr : Room k X.A) (hgd : X.A.guards = some []) (hg : Gl X x) (hm : X.mg x = some (.ref f)) (hk : PySem.W.keepIn X.K (.ref f) = true) (hb : Binds X.K fd ps []) (hx : ∀ σ, PassesAt (L2.CX X.prog X.w) X σ (WE W σ))
    (ha : PA X (e :: es) t) (hdb : (x == ("__debug__" : Str)) = false := by decide) (he : starEach (e :: es) X.env = (false, eval e X.env) :: starEach es X.env := by rfl) (hpl : (backTo pos (starEach es X.env)).any (·.1) = false := by rfl) :
    PE X (.Call (.Name x p) (e :: es) [] pos) (fun σ H Q => t σ H fun vs H1 => sp vs H1 Q (WE W σ)) := by
  refine ⟨fun pins s σ H Q I h => ?_⟩
  refine wpAny_Call_Name_kw (ld_glob I hg hm ?_ hdb)
  refine PySem.W.callWith_K (h₀ := X.base) I.ok.mod.kin hk (thn (ha.run pos pins s σ H _ I h) fun us s1 ⟨vs, H1, I1, r, q⟩ => ⟨I1.kIn, ?_⟩) he hpl
  have hl : (us ++ []).length = ps.length := by rw [List.append_nil, ← r.length]; exact F.len _ _ _ _ q
  have hb' := hb s1 us I1.kIn hl
  rw [List.append_nil] at hb'
  exact call_of (run_G F hr hgd (hx σ) I1 hb' r q)
theorem pe_G0 (F : FnG X.prog X.w X.K X.mg X.base k f fd ps sp) (hr : Room k X.A) (hgd : X.A.guards = some []) (hg : Gl X x) (hm : X.mg x = some (.ref f)) (hk : PySem.W.keepIn X.K (.ref f) = true) (hb : Binds X.K fd ps []) (hx : ∀ σ, PassesAt (L2.CX X.prog X.w) X σ (WE W σ))
    (hdb : (x == ("__debug__" : Str)) = false := by decide) : PE X (.Call (.Name x p) [] [] pos) (fun σ H Q => sp [] H Q (WE W σ)) := by
  refine ⟨fun pins s σ H Q I h => ?_⟩
  refine wpAny_Call_Name_kw (ld_glob I hg hm ?_ hdb)
  have hl : (([] : List Value) ++ []).length = ps.length := F.len _ _ _ _ h
  exact PySem.W.callWith_K0 I.kIn hk (call_of (run_G F hr hgd (hx σ) I (hb s [] I.kIn hl) .nil h))
theorem pe_GK {g : List Value → List Value → List Value} {gV : List V → List V → List V} (F : FnG X.prog X.w X.K X.mg X.base k f fd ps sp) (hr : Room k X.A) (hgd : X.A.guards = some []) (hg : Gl X x) (hm : X.mg x = some (.ref f)) (hk : PySem.W.keepIn X.K (.ref f) = true) (hb : KBinds X.K fd ps ks g gV) (hx : ∀ σ, PassesAt (L2.CX X.prog X.w) X σ (WE W σ))
    (ha : PA X (e :: es) t) (hkw : PK X kws tk) (hall : (backToKw pos (keywordEach kws X.env)).all (·.1.isSome) = true := by rfl) (hks : (backToKw pos (keywordEach kws X.env)).filterMap (·.1) = ks := by rfl)
    (hdb : (x == ("__debug__" : Str)) = false := by decide) (he : starEach (e :: es) X.env = (false, eval e X.env) :: starEach es X.env := by rfl)
    (hpl : ((backTo pos (starEach (e :: es) X.env)).any (·.1) || (backToKw pos (keywordEach kws X.env)).any (·.1.isNone)) = false := by rfl) :
    PE X (.Call (.Name x p) (e :: es) kws pos) (fun σ H Q => t σ H fun vs H1 => tk σ H1 fun zs H2 => sp (gV vs zs) H2 Q (WE W σ)) := by
  refine ⟨fun pins s σ H Q I h => ?_⟩
  refine wpAny_Call_Name_kw (ld_glob I hg hm ?_ hdb)
  refine PySem.W.callWith_KW (h₀ := X.base) I.ok.mod.kin hk hall (thn (ha.run pos pins s σ H _ I h) fun us s1 ⟨vs, H1, I1, r, q⟩ => ?_) hpl he
  refine thn (hkw.run pos pins s1 σ H1 _ I1 q) fun ws s2 ⟨zs, H2, I2, rz, q2⟩ => ⟨I2.kIn, ?_⟩
  rw [hks]
  have r2 := hb.rel r rz
  have hl : (g us ws).length = ps.length := by rw [← r2.length]; exact F.len _ _ _ _ q2
  exact call_of (run_G F hr hgd (hx σ) I2 (hb.to s2 us ws I2.kIn hl) r2 q2)
end

/-! ### calls, by data -/
def eCallM (m : FM) (ma : AM) : EM := fun δ μ => (ma δ μ).bind fun ds μ1 => callM m ds μ1
def eCallP (m : FM) (ma : AM) : EM := fun δ μ => (ma δ μ).bind fun ds μ1 => callP m ds μ1
/-- f(.., k = v): g puts the values in the parameters' order -/
def eCallKP (m : FM) (g : List D → List D → List D) (ma mk : AM) : EM := fun δ μ => (ma δ μ).bind fun ds μ1 => (mk δ μ1).bind fun es μ2 => callP m (g ds es) μ2
def eCallKM (m : FM) (g : List D → List D → List D) (ma mk : AM) : EM := fun δ μ => (ma δ μ).bind fun ds μ1 => (mk δ μ1).bind fun es μ2 => callM m (g ds es) μ2
section
variable {X : Cx} {S : SI} {W : WX} {k n : Nat} {f : Addr} {fd : FuncData} {ps ks : List Str} {x : Str} {p pos kpos : Pos} {e : Expr} {es : List Expr} {kws : List Keyword} {mr mk : AM} {m : FM} {nm : Option Str} {ma : EM}
theorem At.fto {K : PySem.W.Frag} {mg : Str → Option Value} {w : Wd} {δ : Sv} {μ : Mem} {σ : L2.St} {H : Hp} {Q : VK} {o : Out D} (h : At K mg S W (RelD K mg) σ Q w δ μ H o) : FTo K mg S.T w Q (WE W σ) o := h.2.2
theorem pe_callM {e' : Expr} (h : ∀ t, PA X es t → PE X e' (fun σ H Q => t σ H fun vs H1 => spM X.K X.mg S.T n m vs H1 Q (WE W σ))) (hl : es.length = n) (ha : PA X es (TAm X S W mr)) (hn : ∀ δ μ ds μ', mr δ μ = .ok ds μ' → ds.length = n) : PE X e' (TEm X S W <| eCallM m mr) :=
  PEi (h _ ha) fun σ H Q ⟨w, δ, μ, h⟩ => ⟨w, δ, μ, by
    refine ⟨h.1, h.2.1, ?_⟩
    have h3 := h.2.2
    unfold eCallM at h3
    cases e : mr δ μ with
    | stuck => rw [e] at h3; exact h3.elim
    | exc x μ' => rw [e] at h3; exact h3
    | ok ds μ' =>
      rw [e] at h3
      intro w' vs H' le rm rs
      refine sp_callM (by rw [← rs.length]; exact hn _ _ _ _ e) rm rs ?_
      exact Out.to_mono h3 (fun d μ2 q w2 v2 H2 le2 => q w2 v2 H2 (le.trans le2)) fun x μ2 q w2 c d H2 le2 => q w2 c d H2 (le.trans le2)⟩
theorem pe_callP {e' : Expr} (h : ∀ t, PA X es t → PE X e' (fun σ H Q => t σ H fun vs H1 => spM X.K X.mg S.T n m vs H1 Q (WE W σ))) (hl : es.length = n) (ha : PA X es (TAm X S W mr)) (hn : ∀ δ μ ds μ', mr δ μ = .ok ds μ' → ds.length = n) : PE X e' (TEm X S W <| eCallP m mr) :=
  PEi (h _ ha) fun σ H Q ⟨w, δ, μ, h⟩ => ⟨w, δ, μ, by
    refine ⟨h.1, h.2.1, ?_⟩
    have h3 := h.2.2
    unfold eCallP at h3
    cases e : mr δ μ with
    | stuck => rw [e] at h3; exact h3.elim
    | exc x μ' => rw [e] at h3; exact h3
    | ok ds μ' =>
      rw [e] at h3
      intro w' vs H' le rm rs
      refine sp_callP (by rw [← rs.length]; exact hn _ _ _ _ e) rm rs ?_
      exact Out.to_mono h3 (fun d μ2 q w2 v2 H2 le2 => q w2 v2 H2 (le.trans le2)) fun x μ2 q w2 c d H2 le2 => q w2 c d H2 (le.trans le2)⟩
theorem aNil_len : ∀ δ μ ds μ', aNil δ μ = .ok ds μ' → ds.length = 0 := fun δ μ ds μ' h => by cases h; rfl
theorem aCons_len {n : Nat} (h : ∀ δ μ ds μ', mr δ μ = .ok ds μ' → ds.length = n) : ∀ δ μ ds μ', aCons ma mr δ μ = .ok ds μ' → ds.length = n + 1 := fun δ μ ds μ' e => by
  unfold aCons at e
  cases e1 : ma δ μ with
  | ok x μ1 =>
    rw [e1] at e
    cases e2 : mr δ μ1 with
    | ok xs μ2 =>
      have e' : (mr δ μ1).bind (fun xs μ2 => Out.ok (x :: xs) μ2) = .ok ds μ' := e
      rw [e2] at e'
      cases e'
      rw [List.length_cons, h _ _ _ _ e2]
    | _ =>
      have e' : (mr δ μ1).bind (fun xs μ2 => Out.ok (x :: xs) μ2) = .ok ds μ' := e
      rw [e2] at e'
      cases e'
  | _ => rw [e1] at e; cases e
theorem pk_nil' : PK X [] (TAm X S W aNil) := PKi pk_nil fun σ H Q ⟨w, δ, μ, h⟩ => h.2.2 w [] H (Wd.Le.refl _) h.2.1 .nil
theorem pk_cons' (ha : PE X e (TEm X S W ma)) (hr : PK X kws (TAm X S W mr)) : PK X (⟨nm, e, kpos⟩ :: kws) (TAm X S W <| aCons ma mr) :=
  PKi (pk_cons ha hr) fun σ H Q ⟨w, δ, μ, h⟩ => ⟨w, δ, μ, (At.bind h).mono fun x H1 ⟨w1, μ1, d, le, rd, h1⟩ => ⟨w1, δ, μ1, (At.bind h1).mono fun y H2 ⟨w2, μ2, f, le2, re, h2⟩ =>
    h2.2.2 w2 (x :: y) H2 (Wd.Le.refl _) h2.2.1 (.cons (rd.mono le2) re)⟩⟩
/-- how keywords bind, by data too -/
structure KB (n m : Nat) (gV : List V → List V → List V) (g : List D → List D → List D) : Prop where
  rel : ∀ {K : PySem.W.Frag} {mg : Str → Option Value} {w : Wd} {ds es : List D} {vs us : List V}, RelDs K mg w ds vs → RelDs K mg w es us → ds.length = n → es.length = m → RelDs K mg w (g ds es) (gV vs us)
theorem pe_callKP {e' : Expr} {g : List D → List D → List D} {gV : List V → List V → List V} {a b : Nat} (h : ∀ t tk, PA X es t → PK X kws tk → PE X e' (fun σ H Q => t σ H fun vs H1 => tk σ H1 fun zs H2 => spM X.K X.mg S.T n m (gV vs zs) H2 Q (WE W σ))) (hl : ∀ ds es, ds.length = a → es.length = b → (g ds es).length = n) (kb : KB a b gV g)
    (ha : PA X es (TAm X S W mr)) (hk : PK X kws (TAm X S W mk)) (hn : ∀ δ μ ds μ', mr δ μ = .ok ds μ' → ds.length = a) (hn2 : ∀ δ μ ds μ', mk δ μ = .ok ds μ' → ds.length = b) : PE X e' (TEm X S W <| eCallKP m g mr mk) :=
  PEi (h _ _ ha hk) fun σ H Q ⟨w, δ, μ, h⟩ => ⟨w, δ, μ, by
    refine ⟨h.1, h.2.1, ?_⟩
    have h3 := h.2.2
    unfold eCallKP at h3
    cases e : mr δ μ with
    | stuck => rw [e] at h3; exact h3.elim
    | exc x μ' => rw [e] at h3; exact h3
    | ok ds μ' =>
      rw [e] at h3
      intro w' vs H' le rm rs
      refine ⟨w', δ, μ', h.1.mono le, rm, ?_⟩
      have h4 : ((mk δ μ').bind fun es μ2 => callP m (g ds es) μ2).to _ _ := h3
      cases e2 : mk δ μ' with
      | stuck => rw [e2] at h4; exact h4.elim
      | exc x μ2 => rw [e2] at h4; exact fun w2 c d H2 le2 => h4 w2 c d H2 (le.trans le2)
      | ok es μ2 =>
        rw [e2] at h4
        intro w2 us H2 le2 rm2 rs2
        have rr := kb.rel (rs.mono le2) rs2 (hn _ _ _ _ e) (hn2 _ _ _ _ e2)
        refine sp_callP (by rw [← rr.length]; exact hl _ _ (hn _ _ _ _ e) (hn2 _ _ _ _ e2)) rm2 rr ?_
        exact Out.to_mono h4 (fun d μ2 q w3 v2 H2 le3 => q w3 v2 H2 ((le.trans le2).trans le3)) fun x μ2 q w3 c d H2 le3 => q w3 c d H2 ((le.trans le2).trans le3)⟩
end

/-! ### a def does what its body says -/
def bodyM (N : Nat) (m : SM) : FM := fun ds μ => match m (ds.map some ++ List.replicate (N - ds.length) none) μ with
  | .ret d μ' => .ok d μ'
  | .nx _ μ' => .ok .non μ'
  | .exc x _ μ' => .exc x μ'
  | _ => .stuck
theorem RelSv.start {K : PySem.W.Frag} {mg : Str → Option Value} {S : SI} {w : Wd} {ds : List D} {vs : List V} (N : List Str) (h : RelDs K mg w ds vs) : RelSv K mg S w (ds.map some ++ List.replicate (N.length - ds.length) none) (start N vs) := by
  refine ⟨by unfold L2.start; simp [h.length], fun i d hd => ?_⟩
  by_cases hi : i < ds.length
  · rw [List.getElem?_append_left (by simpa using hi), List.getElem?_map] at hd
    cases e : ds[i]? with
    | none => rw [e] at hd; cases hd
    | some d' =>
      rw [e] at hd
      cases hd
      obtain ⟨v, hv, rv⟩ := h.get e
      refine ⟨v, ?_, .of rv⟩
      unfold L2.start
      rw [List.getElem?_append_left (by rw [List.length_map, ← h.length]; exact hi), List.getElem?_map, hv]
      rfl
  · rw [List.getElem?_append_right (by simpa using hi), List.getElem?_replicate] at hd
    split at hd <;> cases hd
section
variable {P : Program} {w : World} {K : PySem.W.Frag} {mg : Str → Option Value} {base : Heap} {x qual : Str} {params : Arguments} {body : List Stmt} {scope : Scope} {dvs : List V} {kws : List (Str × V)} {f : Addr} {fd : FuncData}
theorem fnG_of {T : List (Addr × Str)} {N ps : List Str} {k n : Nat} {m : SM} (F : FunD K x qual params body scope dvs kws f fd) (S : FnScope N ps scope) (hn : ps.length = n)
    (hbody : ∀ (cdv : Value) (A : Around) (outer : List Env) (s : Shared) (H : Hp) (E : XK), Room k (A.deeper (envOfC qual scope s.heap.objs.size f cdv)) → (A.deeper (envOfC qual scope s.heap.objs.size f cdv)).guards = some [] → Takes (cxOf (L2.CX P w) P w K mg base N qual scope f cdv A outer s H E) (fun c d _ H => E c d H) →
      PSs (cxOf (L2.CX P w) P w K mg base N qual scope f cdv A outer s H E) body (tS K mg { T := T } (fun c d _ H => E c d H) m)) : FnG P w K mg base (k + 1) f fd ps (spM K mg T n (bodyM N.length m)) := by
  obtain ⟨oc, od, dV, kV, doc, pm, an, cdv, ct, osl, rfl, lk, hcd, _, _⟩ := F.ex
  have len : ∀ vs H Q E, spM K mg T n (bodyM N.length m) vs H Q E → vs.length = ps.length := fun vs H Q E h => h.1.trans hn.symm
  refine ⟨len, fun A outer s H args us vs Q E hr hgd e0 hb r hsp => ?_⟩
  have hl := len _ _ _ _ hsp
  have KX : K.In s.heap := e0.mod.kin.keeps fun b o e => (e0.bs b o e).1
  have lim : s.heap.NoLimit := e0.mod.nolimit.keeps fun b o e => (e0.bs b o e).1
  have hkind : ∀ y ∈ ps.zip us, scope.names.lookup y.1 = some .local ∨ (scope.names.lookup y.1 = some .cell ∧ ((cellsFrom (s.heap.objs.size + 1) scope.names []).lookup y.1).isSome = true) := fun ⟨n, v⟩ hy => by
    rcases S.par n (List.of_mem_zip hy).1 with q | q
    · exact .inl q
    · exact .inr ⟨q, PySem.W.cellsFrom_some _ _ _ (.inl q)⟩
  refine codeAny_call_function hr.depth (KX _ _ lk) rfl S.co S.gen rfl (PySem.W.codeRec_of KX hcd) (hb _ _ _ _ ?_)
  refine wpAny_newFunctionEnv_cells S.kind hkind fun env he s1 x => ?_
  subst he
  refine ⟨lim.keeps x.toInCall.keep, codeAny_func ?_⟩
  have ht := hbody cdv A outer s H E (hr.deeper _) hgd (takes_of rfl rfl rfl rfl)
  have I : Inv (cxOf (L2.CX P w) P w K mg base N qual scope f cdv A outer s H E) [] (start N vs) H s1 := inv_start S hr.hd e0 hl r x
  obtain ⟨_, wd, μ, ds, rm, rs, hm⟩ := hsp
  have hq : tS K mg { T := T } (fun c d _ H => E c d H) m { nx := fun _ H' => Q .non H', rt := Q } (start N vs) H := by
    refine ⟨wd, _, μ, RelSv.start N rs, rm, ?_⟩
    unfold bodyM at hm
    generalize m (ds.map some ++ List.replicate (N.length - ds.length) none) μ = o at hm ⊢
    cases o with
    | ret d μ' => exact hm
    | nx δ μ' => exact fun w' σ H' le rm' _ => hm w' .non H' le rm' .non
    | exc x δ μ' => exact fun w' c d σ H' le rm' _ rx => hm w' c d H' le rm' rx
    | bk δ μ' => exact hm.elim
    | ct δ μ' => exact hm.elim
    | stuck => exact hm.elim
  refine wpAny_mono (ht.run [] s1 (start N vs) H _ I hq) (fun fl s' hs => ?_) fun e s' hs => hs
  have fin : ∀ {σ' : L2.St} {H' : Hp} {v : V} {u : Value}, Inv (cxOf (L2.CX P w) P w K mg base N qual scope f cdv A outer s H E) [] σ' H' s' → RelV v u → Q v H' → CE outer P w H s Q u s' :=
    fun {σ' H' v u} J rv q => ⟨v, H', J.os, J.bare, J.base, J.hok, rv, q⟩
  cases fl with
  | ret u =>
    obtain ⟨v, σ', H', J, rv, q⟩ := hs
    exact fin J rv q
  | next =>
    obtain ⟨σ', H', J, q⟩ := hs
    exact fin (v := V.non) (u := Value.none) J rfl q
  | brk =>
    obtain ⟨_, _, _, q⟩ := hs
    exact False.elim q
  | cont =>
    obtain ⟨_, _, _, q⟩ := hs
    exact False.elim q
end
end Kw

set_option Elab.async false
set_option linter.all false
set_option maxRecDepth 100000
namespace Kw
open PySem PySem.Spec PyProof.Rows L2 LamX

/-! ### the law's call, where no guard stands above -/
/-- the script as it was laid -/
abbrev scrO (vs : List Value) : Obj := { cls := .type "list", data := .seq vs.toArray }
abbrev tabO : Obj := { cls := .none, data := .fields #[] }
open Classical in
noncomputable def H0 (K : PySem.W.Frag) (ts : List Addr) (a : Addr) (vs : List Value) (xs : List V) : Hp := fun b =>
  if b ∈ ts then some (.tbl #[]) else if b = a ∧ K.lookup a = none then some (.frz (scrO vs) (.lst xs)) else none
section
variable {P : Program} {w : World} {K : PySem.W.Frag} {mg mb : Str → Option Value} {k : Nat} {fa a : Addr} {cs : List (Addr × Addr)} {fd : FuncData} {x : Str} {sp : Sp} {s₁ : Shared} {vs : List Value} {ns : List Int}
theorem H0_tab {ts : List Addr} {xs : List V} {b : Addr} (h : b ∈ ts) : H0 K ts a vs xs b = some (.tbl #[]) := if_pos h
theorem H0_some {ts : List Addr} {xs : List V} {b : Addr} {u : HO} (h : H0 K ts a vs xs b = some u) : (b ∈ ts ∧ u = .tbl #[]) ∨ (b ∉ ts ∧ b = a ∧ K.lookup a = none ∧ u = .frz (scrO vs) (.lst xs)) := by
  unfold H0 at h
  split at h
  · next hb => cases h; exact .inl ⟨hb, rfl⟩
  · next hb =>
    split at h
    · next hc => cases h; exact .inr ⟨hb, hc.1, hc.2, rfl⟩
    · cases h
theorem law_callG (KX : K.In s₁.heap) (hns : s₁.heap.Ns mainGlobals mg) (hb : s₁.heap.Ns builtinsNs mb) (hbb : ∀ x : Str, x ≠ "__name__" → mb x = bootBuiltins x) (hlim : s₁.heap.NoLimit) (hg : s₁.gens = #[])
    (hT : ∀ p ∈ cs, s₁.heap.get? p.2 = some tabO) (nT : ∀ p ∈ cs, K.lookup p.2 = none) (C : ∀ p ∈ cs, PySem.W.CodeHd s₁.heap p.1 p.2)
    (hbm : ∃ (bm : Addr) (ob : Obj), mg "__builtins__" = some (.ref bm) ∧ bm ≠ builtinsNs ∧ s₁.heap.get? bm = some ob ∧ ob.cls = .type "module" ∧ ob.dict = some builtinsNs ∧ ob.data = .plain)
    (ha : s₁.heap.get? a = some (scrO vs)) (hi : IntsAre vs ns) (hl : ns.length ≤ sizeLine) (hr : Room k callerA)
    (F : ∀ base : Heap, K.In base → base.Ns mainGlobals mg → (∀ p ∈ cs, TabB base mg p.1 p.2) → FnG P w K mg base k fa fd [x] sp) (hbind : ∀ (s : Shared) (u : Value), BindsTo s fd ⟨[u], []⟩ [(x, u)])
    (hsp : ∀ H : Hp, (∀ p ∈ cs, H p.2 = some (.tbl #[])) → SqL K H a (ns.map V.int) → sp [.ref a] H (fun v _ => v = .bl true) fun _ _ _ => False) :
    codeAny (model P w) callerA (.call (.ref fa) ⟨[.ref a], []⟩) (fun r s' => r = .ok (.ret (.bool true)) ∧ OldK s₁.heap s'.heap ∧ s'.os = s₁.os ∧ AllBare s'.gens) s₁ := by
  obtain ⟨H, eH⟩ : ∃ H : Hp, H = H0 K (cs.map (·.2)) a vs (ns.map V.int) := ⟨_, rfl⟩
  have rv := vals_ints hi
  have isT : ∀ b : Addr, b ∈ cs.map (·.2) → s₁.heap.get? b = some tabO := fun b h => by
    obtain ⟨p, hp, e⟩ := List.mem_map.mp h
    rw [← e]; exact hT p hp
  have hH : ∀ p ∈ cs, H p.2 = some (.tbl #[]) := fun p hp => by rw [eH]; exact H0_tab (List.mem_map.mpr ⟨p, hp, rfl⟩)
  have aT : a ∉ cs.map (·.2) := fun z => by
    have q := isT a z
    rw [ha] at q
    have z' : Data.seq vs.toArray _ = Data.fields #[] := congrArg Obj.data (Option.some.inj q)
    cases z'
  -- what is tracked, and what stands there
  have on : ∀ b u, H b = some u → (b ∈ cs.map (·.2) ∧ u = .tbl #[] ∧ s₁.heap.get? b = some tabO) ∨ (b = a ∧ K.lookup a = none ∧ u = .frz (scrO vs) (.lst (ns.map V.int)) ∧ s₁.heap.get? b = some (scrO vs)) := fun b u h => by
    rw [eH] at h
    rcases H0_some h with ⟨h1, h2⟩ | ⟨_, h1, h2, h3⟩
    · exact .inl ⟨h1, h2, isT b h1⟩
    · exact .inr ⟨h1, h2, h3, by rw [h1]; exact ha⟩
  have hS : SqL K H a (ns.map V.int) := by
    cases hk : K.lookup a with
    | some o =>
      have e := KX a o hk
      rw [ha] at e
      cases e
      exact .inr ⟨_, vs.toArray, _, hk, rfl, rfl, rfl, by rw [List.size_toArray, hi.length]; exact hl, by simpa using rv⟩
    | none =>
      refine .inl (.inr ⟨scrO vs, ?_⟩)
      rw [eH]
      unfold H0
      rw [if_neg aT, if_pos ⟨rfl, hk⟩]
  have hok : HOk P w H s₁.heap := fun b u h => by
    rcases on b u h with ⟨_, rfl, e⟩ | ⟨rfl, _, rfl, e⟩
    · exact e
    · exact ⟨ha, by rw [List.length_map]; exact hl, vs, _, rv, ha⟩
  have off : ∀ {b : Addr} {o : Obj}, s₁.heap.get? b = some o → o.data ≠ .fields #[] → (∀ ws n, o.data ≠ .seq ws n) → H b = none := fun {b o} e h1 h2 => by
    cases q : H b with
    | none => rfl
    | some u =>
      rcases on b u q with ⟨_, _, e'⟩ | ⟨_, _, _, e'⟩
      · rw [e] at e'; cases e'; exact absurd rfl h1
      · rw [e] at e'; cases e'; exact absurd rfl (h2 _ _)
  have nsK : ∀ {b : Addr} {m : Str → Option Value}, s₁.heap.Ns b m → (hidT s₁.heap H).Ns b m := fun {b m} ⟨o, es, ep, e, d, r⟩ => ⟨o, es, ep, hidT_get e (off e (by rw [d]; nofun) (by rw [d]; nofun)), d, r⟩
  have hKb : K.In (hidT s₁.heap H) := fun b o e => hidT_get (KX b o e) (by
    cases q : H b with
    | none => rfl
    | some u =>
      rcases on b u q with ⟨h1, _, _⟩ | ⟨h1, h2, _, _⟩
      · obtain ⟨p, hp, ep⟩ := List.mem_map.mp h1
        rw [← ep, nT p hp] at e; cases e
      · rw [h1, h2] at e; cases e)
  have hM : L2.Mod K mg (hidT s₁.heap H) := ⟨hKb, nsK hns, ⟨mb, nsK hb, hbb⟩, let ⟨mc, h1, h2⟩ := hlim; ⟨mc, nsK h1, h2⟩⟩
  have TB : ∀ p ∈ cs, TabB (hidT s₁.heap H) mg p.1 p.2 := fun p hp => by
    have hTp := hT p hp
    refine ⟨?_, ?_, fun z => ?_⟩
    · obtain ⟨o, us, file, tf, flags, tg, inF, text, tt, e1, r1, r2, r3, r4, r5, r6, r7, r8, hne⟩ := C p hp
      refine ⟨o, us, file, tf, flags, tg, inF, text, tt, hidT_get e1 (off e1 (fun z => ?_) (by rw [r2]; nofun)), r1, r2, r3, r4, r5, r6, r7, r8, hne⟩
      rw [r2] at z
      cases z
      simp at r3
    · obtain ⟨bm, ob, b1, b2, b3, b4, b5, b6⟩ := hbm
      have nG : bm ≠ mainGlobals := fun q => by
        obtain ⟨o, es, ep, e, hd, _⟩ := hns
        rw [q, e] at b3
        cases b3
        rw [hd] at b6
        cases b6
      have nP : bm ≠ p.2 := fun q => by
        rw [q, hTp] at b3
        cases b3
        cases b6
      exact ⟨bm, ob, b1, b2, nG, nP, hidT_get b3 (off b3 (by rw [b6]; nofun) (by rw [b6]; nofun)), b4, b5, b6⟩
    · obtain ⟨o, es, ep, e, hd, _⟩ := hns
      rw [z, hTp] at e
      cases e
      cases hd
  have e0 : Env0 P w K mg (hidT s₁.heap H) callerA [] s₁ H := ⟨rfl, hM, fun b o e => of_hidT e, Nat.le_of_eq (hidT_size _ _), trivial, fun b hb => absurd (show b ∈ ([] : List Addr) from hb) (by simp), hok, .of_eq hg⟩
  refine codeAny_mono ((F _ hKb (nsK hns) TB).run callerA [] s₁ H ⟨[.ref a], []⟩ [.ref a] [.ref a] _ _ hr rfl e0 (hbind s₁ (.ref a)) (.cons rfl .nil) (hsp H hH hS)) fun r s' h => ?_
  cases r with
  | error e =>
    obtain ⟨_, _, _, _, _, _, _, _, _, _, _, _, z⟩ := h
    exact z.elim
  | ok fl =>
    cases fl with
    | next => exact False.elim h
    | brk => exact False.elim h
    | cont => exact False.elim h
    | ret u =>
      obtain ⟨v, H', os, bare, un, hok', r', q⟩ := h
      have q' : v = .bl true := q
      subst q'
      obtain rfl : u = Value.bool true := r'
      refine ⟨rfl, ⟨fun b o e => ?_, fun b o e => ?_⟩, os, bare⟩
      · cases q : H b with
        | none => exact .inl (un.keep b o e q (fun z => absurd (show b ∈ ([] : List Addr) from z) (by simp)) (by simp))
        | some u =>
          rcases on b u q with ⟨h1, rfl, e'⟩ | ⟨_, _, rfl, e'⟩
          · obtain ⟨p, hp, ep⟩ := List.mem_map.mp h1
            rw [e] at e'
            cases e'
            obtain ⟨more, z⟩ := un.tbls b #[] q
            have z' := hok' b _ z
            rw [← ep] at z' ⊢
            exact .inr (.inl ⟨((C p hp).tab (hT p hp)).isCodeTable, rfl, #[], more, rfl, by rw [Array.empty_append]; rw [Array.empty_append] at z'; exact z'⟩)
          · have z := un.frzs b _ _ q
            obtain ⟨e2, _⟩ := hok' b _ z
            rw [e] at e'
            cases e'
            exact .inl e2
      · cases q : H b with
        | none => exact ⟨o, un.keep b o e q (fun z => absurd (show b ∈ ([] : List Addr) from z) (by simp)) (by simp)⟩
        | some u =>
          rcases on b u q with ⟨h1, rfl, e'⟩ | ⟨_, _, rfl, e'⟩
          · obtain ⟨more, z⟩ := un.tbls b #[] q
            exact ⟨_, hok' b _ z⟩
          · have z := un.frzs b _ _ q
            exact ⟨_, (hok' b _ z).1⟩
end
/-! ### the end of a law -/
theorem walk_G {l : PySem.W.OpenLaw} {n k : Nat} {q : Program} {loose : List Str} {XP : (Str → Option Value) → Heap → Prop} {YP : World → Heap → Prop} {d : DefRec} {x : Str} {m : FM}
    (hn : l.most = some n) (hn2 : n ≤ sizeLine) (hdf : d.params.defaults = []) (hr : Room k callerA)
    (pl : ∀ ns : List Int, ns.length ≤ n → (∀ z ∈ ns, Builtin.Int.intBits z ≤ 1048576) → ∃ μ, m [.scr (ns.map D.int)] [] = .ok (.bl true) μ)
    (F : ∀ (w : World) (mg : Str → Option Value) (fa : Addr) (h : Heap), YP w h → h.Ns mainGlobals mg → mg d.name = some (.ref fa) → ∃ (K : PySem.W.Frag) (fd : FuncData) (cs : List (Addr × Addr)) (T : List (Addr × Str)), K.In h ∧
      (∀ p ∈ cs, h.get? p.2 = some { cls := .none, data := .fields #[] }) ∧ (∀ p ∈ cs, K.lookup p.2 = none) ∧ (∀ p ∈ cs, PySem.W.CodeHd h p.1 p.2) ∧ (∀ q ∈ T, ∃ c, (c, q.1) ∈ cs) ∧ (∀ (s : Shared) (u : Value), BindsTo s fd ⟨[u], []⟩ [(x, u)]) ∧
      ∀ base : Heap, K.In base → base.Ns mainGlobals mg → (∀ p ∈ cs, TabB base mg p.1 p.2) → FnG l.prog w K mg base k fa fd [x] (spM K mg T 1 m)) :
    PySem.W.WalkO q loose XP YP l.row.toRowW d [] (fun f vs => PySem.call f vs) := by
  refine Att.attach_callB hn hdf fun w s₀ s₁ mg mb fa o pm cd doc a vs ns G Y ho hd hcd hmg hobj hints hlen hbits hg => ?_
  obtain ⟨K, fd, cs, T, KX, hT, nT, C, hTc, hb, hF⟩ := F w mg fa _ Y G.T.g hmg
  refine law_callG KX G.T.g G.T.b G.T.builtins G.T.nolimit hg hT nT C G.T.bmain hobj hints (Nat.le_trans hlen hn2) hr hF hb fun H hH hS => ?_
  obtain ⟨μ, hm⟩ := pl ns hlen hbits
  refine ⟨rfl, ⟨0, fun _ => 0, fun b => match H b with
    | some (.tbl _) => none
    | o => o, fun _ => none, fun _ => none⟩, [], [.scr (ns.map D.int)], ?_, ?_, ?_⟩
  · refine ⟨rfl, fun b u h => ?_, (fun b u h => nomatch h), (fun b u h => nomatch h), (fun b u h => nomatch h), (fun b u h => nomatch h), fun l b h => by simp at h, fun l h => by simp at h, fun l l' h => absurd h (Nat.not_lt_zero _), fun q hq => ?_, fun b ps h => ?_⟩
    · simp only at h
      split at h
      · cases h
      · exact h
    · obtain ⟨c, hc⟩ := hTc q hq
      refine ⟨#[], hH _ hc, ?_, fun pos cv z => ?_⟩
      · exact trivial
      · cases z
    · simp only at h
      split at h
      · cases h
      · next hn => exact hn ps h
  · refine .cons (.scr (vs := ns.map V.int) (.inl ?_) ?_) .nil
    · rcases hS with (hS | ⟨o, hS⟩) | hS
      · exact .inl (.inl (by simp only [hS]))
      · exact .inl (.inr ⟨o, by simp only [hS]⟩)
      · exact .inr hS
    · clear hlen hbits hm hS hints
      induction ns with
      | nil => exact .nil
      | cons z zs ih => exact .cons (.int z) ih
  · rw [hm]
    intro w' v H' le rm rd
    cases rd
    rfl
end Kw

set_option Elab.async false
set_option linter.all false
set_option maxRecDepth 100000
namespace Kw
open PySem PySem.Spec PyProof.Rows L2 LamX

/-! ### a def by its statement in the text -/
def permL {α : Type} (idx : List Nat) (l : List α) : List α := idx.filterMap (l[·]?)
abbrev FnP (K : PySem.W.Frag) (x : Str) (st : Stmt) (f : Addr) (fd : FuncData) : Prop := FunD K x x (defArgs st) (defBody st) (defScope st) [] [] f fd
/-- the def x does what m says -/
structure CalD (P : Program) (w : World) (K : PySem.W.Frag) (mg : Str → Option Value) (base : Heap) (T : List (Addr × Str)) (x : Str) (st : Stmt) (k : Nat) (ps : List Str) (m : FM) : Prop where
  ex : ∃ f fd, FnP K x st f fd ∧ mg x = some (.ref f) ∧ Binds K fd ps [] ∧ FnG P w K mg base k f fd ps (spM K mg T ps.length m)
section
variable {P : Program} {w : World} {K : PySem.W.Frag} {mg : Str → Option Value} {base : Heap} {T : List (Addr × Str)} {x : Str} {st : Stmt} {k : Nat} {ps : List Str} {m : FM} {f : Addr} {fd : FuncData}
theorem CalD.mk' (F : FnP K x st f fd) (hm : mg x = some (.ref f)) (hb : ∀ (kV doc pm : Value) (an : Option Addr) (cdv ct : Value) (us : List Value), us.length = ps.length → bindArgs (PySem.W.fnOf x x (defArgs st) (defBody st) (defScope st) .none kV doc pm an cdv ct) ⟨us, []⟩ = pure (ps.zip us))
    (h : FnG P w K mg base k f fd ps (spM K mg T ps.length m)) : CalD P w K mg base T x st k ps m := ⟨f, fd, F, hm, F.bindsN hb, h⟩
theorem FnP.bindsK {ks : List Str} {idx : List Nat} {a b : Nat} (F : FnP K x st f fd) (hb : ∀ (kV doc pm : Value) (an : Option Addr) (cdv ct : Value) (us ws : List Value), us.length = a → ws.length = b → bindArgs (PySem.W.fnOf x x (defArgs st) (defBody st) (defScope st) .none kV doc pm an cdv ct) ⟨us, ks.zip ws⟩ = pure (ps.zip (permL idx (us ++ ws))))
    (s : Shared) (us ws : List Value) (h1 : us.length = a) (h2 : ws.length = b) : BindsTo s fd ⟨us, ks.zip ws⟩ (ps.zip (permL idx (us ++ ws))) := by
  obtain ⟨oc, od, dV, kV, doc, pm, an, cdv, ct, osl, rfl, lk, hcd, hD, hK⟩ := F.ex
  rcases hD with ⟨_, rfl⟩ | ⟨e, _⟩
  · exact .of_eq (hb kV doc pm an cdv ct us ws h1 h2)
  · exact absurd rfl e
theorem permL_rel {w : Wd} : ∀ (idx : List Nat) {ds : List D} {vs : List V}, RelDs K mg w ds vs → RelDs K mg w (permL idx ds) (permL idx vs)
  | [], _, _, _ => .nil
  | i :: idx, ds, vs, h => by
    have ih := permL_rel idx h
    unfold permL at ih ⊢
    rw [List.filterMap_cons, List.filterMap_cons]
    cases e : ds[i]? with
    | none =>
      have : vs[i]? = none := by
        rw [List.getElem?_eq_none_iff] at e ⊢
        rw [← h.length]; exact e
      rw [this]
      exact ih
    | some d =>
      obtain ⟨v, hv, rv⟩ := h.get e
      rw [hv]
      exact .cons rv ih
theorem permL_vals : ∀ (idx : List Nat) {ds : List V} {vs : List Value}, Vals ds vs → Vals (permL idx ds) (permL idx vs)
  | [], _, _, _ => .nil
  | i :: idx, ds, vs, h => by
    have ih := permL_vals idx h
    unfold permL at ih ⊢
    rw [List.filterMap_cons, List.filterMap_cons]
    cases e : ds[i]? with
    | none =>
      have : vs[i]? = none := by
        rw [List.getElem?_eq_none_iff] at e ⊢
        rw [← h.length]; exact e
      rw [this]
      exact ih
    | some d =>
      obtain ⟨v, hv, rv⟩ := h.get e
      rw [hv]
      exact .cons rv ih
end
section
variable {X : Cx} {S : SI} {W : WX} {k j n a b : Nat} {ps ks : List Str} {x : Str} {p pos : Pos} {e : Expr} {es : List Expr} {kws : List Keyword} {mr mk : AM} {m : FM} {st : Stmt} {idx : List Nat}
/-- exceptions: none may come; or they are taken -/
theorem pass0 : ∀ σ, PassesAt (L2.CX X.prog X.w) X σ (WE W0 σ) := fun σ pins H s e s' I c => by
  obtain ⟨_, _, _, _, _, _, _, _, _, _, _, _, z⟩ := c
  exact z.elim
theorem passT (tk : Takes X W) : ∀ σ, PassesAt (L2.CX X.prog X.w) X σ (WE W σ) := passAt tk
theorem pe_P (C : CalD X.prog X.w X.K X.mg X.base S.T x st k ps m) (hx : ∀ σ, PassesAt (L2.CX X.prog X.w) X σ (WE W σ)) (hr : Room j X.A) (hk : k ≤ j) (hgd : X.A.guards = some []) (hg : Gl X x) (ha : PA X (e :: es) (TAm X S W mr)) (hn : ∀ δ μ ds μ', mr δ μ = .ok ds μ' → ds.length = ps.length) (hl : (e :: es).length = ps.length)
    (hdb : (x == ("__debug__" : Str)) = false := by decide) (he : starEach (e :: es) X.env = (false, eval e X.env) :: starEach es X.env := by rfl) (hpl : (backTo pos (starEach es X.env)).any (·.1) = false := by rfl) :
    PE X (.Call (.Name x p) (e :: es) [] pos) (TEm X S W <| eCallP m mr) := by
  obtain ⟨f, fd, F, hm, hb, G⟩ := C.ex
  exact pe_callP (fun t ht => pe_G G (hr.mono hk) hgd hg hm F.kp hb hx ht hdb he hpl) hl ha hn
theorem pe_M (C : CalD X.prog X.w X.K X.mg X.base S.T x st k ps m) (hx : ∀ σ, PassesAt (L2.CX X.prog X.w) X σ (WE W σ)) (hr : Room j X.A) (hk : k ≤ j) (hgd : X.A.guards = some []) (hg : Gl X x) (ha : PA X (e :: es) (TAm X S W mr)) (hn : ∀ δ μ ds μ', mr δ μ = .ok ds μ' → ds.length = ps.length) (hl : (e :: es).length = ps.length)
    (hdb : (x == ("__debug__" : Str)) = false := by decide) (he : starEach (e :: es) X.env = (false, eval e X.env) :: starEach es X.env := by rfl) (hpl : (backTo pos (starEach es X.env)).any (·.1) = false := by rfl) :
    PE X (.Call (.Name x p) (e :: es) [] pos) (TEm X S W <| eCallM m mr) := by
  obtain ⟨f, fd, F, hm, hb, G⟩ := C.ex
  exact pe_callM (fun t ht => pe_G G (hr.mono hk) hgd hg hm F.kp hb hx ht hdb he hpl) hl ha hn
/-- f() -/
def eCall0 (m : FM) : EM := fun _ μ => callP m [] μ
theorem pe_P0 (C : CalD X.prog X.w X.K X.mg X.base S.T x st k [] m) (hx : ∀ σ, PassesAt (L2.CX X.prog X.w) X σ (WE W σ)) (hr : Room j X.A) (hk : k ≤ j) (hgd : X.A.guards = some []) (hg : Gl X x) (hdb : (x == ("__debug__" : Str)) = false := by decide) :
    PE X (.Call (.Name x p) [] [] pos) (TEm X S W <| eCall0 m) := by
  obtain ⟨f, fd, F, hm, hb, G⟩ := C.ex
  exact PEi (pe_G0 G (hr.mono hk) hgd hg hm F.kp hb hx hdb) fun σ H Q ⟨w, δ, μ, h⟩ => sp_callP rfl h.2.1 .nil h.2.2
/-- f(.., k = v, ..) -/
def eCallK (m : FM) (idx : List Nat) (ma mk : AM) : EM := fun δ μ => (ma δ μ).bind fun ds μ1 => (mk δ μ1).bind fun es μ2 => callP m (permL idx (ds ++ es)) μ2
theorem pe_callK' {e' : Expr} (h : ∀ t tk, PA X es t → PK X kws tk → PE X e' (fun σ H Q => t σ H fun vs H1 => tk σ H1 fun zs H2 => vs.length = a ∧ zs.length = b ∧ spM X.K X.mg S.T n m (permL idx (vs ++ zs)) H2 Q (WE W σ))) (hi : ∀ ds : List D, ds.length = a + b → (permL idx ds).length = n)
    (ha : PA X es (TAm X S W mr)) (hk : PK X kws (TAm X S W mk)) (hn : ∀ δ μ ds μ', mr δ μ = .ok ds μ' → ds.length = a) (hn2 : ∀ δ μ ds μ', mk δ μ = .ok ds μ' → ds.length = b) : PE X e' (TEm X S W <| eCallK m idx mr mk) :=
  PEi (h _ _ ha hk) fun σ H Q ⟨w, δ, μ, h⟩ => ⟨w, δ, μ, by
    refine ⟨h.1, h.2.1, ?_⟩
    have h3 := h.2.2
    unfold eCallK at h3
    cases e : mr δ μ with
    | stuck => rw [e] at h3; exact h3.elim
    | exc x μ' => rw [e] at h3; exact h3
    | ok ds μ' =>
      rw [e] at h3
      intro w' vs H' le rm rs
      refine ⟨w', δ, μ', h.1.mono le, rm, ?_⟩
      have h4 : ((mk δ μ').bind fun es μ2 => callP m (permL idx (ds ++ es)) μ2).to _ _ := h3
      cases e2 : mk δ μ' with
      | stuck => rw [e2] at h4; exact h4.elim
      | exc x μ2 => rw [e2] at h4; exact fun w2 c d H2 le2 => h4 w2 c d H2 (le.trans le2)
      | ok es μ2 =>
        rw [e2] at h4
        intro w2 us H2 le2 rm2 rs2
        have l1 := hn _ _ _ _ e
        have l2 := hn2 _ _ _ _ e2
        have rr := permL_rel idx ((rs.mono le2).append rs2)
        refine ⟨by rw [← rs.length]; exact l1, by rw [← rs2.length]; exact l2, sp_callP (by rw [← rr.length]; exact hi _ (by rw [List.length_append, l1, l2])) rm2 rr ?_⟩
        exact Out.to_mono h4 (fun d μ2 q w3 v2 H2 le3 => q w3 v2 H2 ((le.trans le2).trans le3)) fun x μ2 q w3 c d H2 le3 => q w3 c d H2 ((le.trans le2).trans le3)⟩
theorem pe_K (C : CalD X.prog X.w X.K X.mg X.base S.T x st k ps m) (hb : ∀ (kV doc pm : Value) (an : Option Addr) (cdv ct : Value) (us ws : List Value), us.length = a → ws.length = b → bindArgs (PySem.W.fnOf x x (defArgs st) (defBody st) (defScope st) .none kV doc pm an cdv ct) ⟨us, ks.zip ws⟩ = pure (ps.zip (permL idx (us ++ ws))))
    (hi : ∀ ds : List D, ds.length = a + b → (permL idx ds).length = ps.length) (hx : ∀ σ, PassesAt (L2.CX X.prog X.w) X σ (WE W σ)) (hr : Room j X.A) (hk : k ≤ j) (hgd : X.A.guards = some []) (hg : Gl X x) (ha : PA X (e :: es) (TAm X S W mr)) (hkw : PK X kws (TAm X S W mk))
    (hn : ∀ δ μ ds μ', mr δ μ = .ok ds μ' → ds.length = a) (hn2 : ∀ δ μ ds μ', mk δ μ = .ok ds μ' → ds.length = b)
    (hall : (backToKw pos (keywordEach kws X.env)).all (·.1.isSome) = true := by rfl) (hks : (backToKw pos (keywordEach kws X.env)).filterMap (·.1) = ks := by rfl)
    (hdb : (x == ("__debug__" : Str)) = false := by decide) (he : starEach (e :: es) X.env = (false, eval e X.env) :: starEach es X.env := by rfl)
    (hpl : ((backTo pos (starEach (e :: es) X.env)).any (·.1) || (backToKw pos (keywordEach kws X.env)).any (·.1.isNone)) = false := by rfl) :
    PE X (.Call (.Name x p) (e :: es) kws pos) (TEm X S W <| eCallK m idx mr mk) := by
  obtain ⟨f, fd, F, hm, _, G⟩ := C.ex
  refine pe_callK' (n := ps.length) (fun t tk ht htk => ⟨fun pins s σ H Q I h => ?_⟩) hi ha hkw hn hn2
  refine wpAny_Call_Name_kw (ld_glob I hg hm ?_ hdb)
  refine PySem.W.callWith_KW (h₀ := X.base) I.ok.mod.kin F.kp hall (thn (ht.run pos pins s σ H _ I h) fun us s1 ⟨vs, H1, I1, r, q⟩ => ?_) hpl he
  refine thn (htk.run pos pins s1 σ H1 _ I1 q) fun ws s2 ⟨zs, H2, I2, rz, l1, l2, q2⟩ => ⟨I2.kIn, ?_⟩
  rw [hks]
  exact call_of (run_G G (hr.mono hk) hgd (hx σ) I2 (F.bindsK hb s2 us ws (by rw [← r.length]; exact l1) (by rw [← rz.length]; exact l2)) (permL_vals idx (r.append rz)) q2)
def eCallK0 (m : FM) (idx : List Nat) (mk : AM) : EM := fun δ μ => (mk δ μ).bind fun es μ2 => callP m (permL idx es) μ2
theorem pe_K0 (C : CalD X.prog X.w X.K X.mg X.base S.T x st k ps m) (hb : ∀ (kV doc pm : Value) (an : Option Addr) (cdv ct : Value) (us ws : List Value), us.length = 0 → ws.length = b → bindArgs (PySem.W.fnOf x x (defArgs st) (defBody st) (defScope st) .none kV doc pm an cdv ct) ⟨us, ks.zip ws⟩ = pure (ps.zip (permL idx (us ++ ws))))
    (hi : ∀ ds : List D, ds.length = b → (permL idx ds).length = ps.length) (hx : ∀ σ, PassesAt (L2.CX X.prog X.w) X σ (WE W σ)) (hr : Room j X.A) (hk : k ≤ j) (hgd : X.A.guards = some []) (hg : Gl X x) (hkw : PK X kws (TAm X S W mk))
    (hn2 : ∀ δ μ ds μ', mk δ μ = .ok ds μ' → ds.length = b)
    (hall : (backToKw pos (keywordEach kws X.env)).all (·.1.isSome) = true := by rfl) (hks : (backToKw pos (keywordEach kws X.env)).filterMap (·.1) = ks := by rfl)
    (hdb : (x == ("__debug__" : Str)) = false := by decide)
    (hpl : ((backTo pos (starEach [] X.env)).any (·.1) || (backToKw pos (keywordEach kws X.env)).any (·.1.isNone)) = false := by rfl) :
    PE X (.Call (.Name x p) [] kws pos) (TEm X S W <| eCallK0 m idx mk) := by
  obtain ⟨f, fd, F, hm, _, G⟩ := C.ex
  have h0 : PE X (.Call (.Name x p) [] kws pos) (fun σ H Q => TAm X S W mk σ H fun zs H2 => zs.length = b ∧ spM X.K X.mg S.T ps.length m (permL idx zs) H2 Q (WE W σ)) := by
    refine ⟨fun pins s σ H Q I h => ?_⟩
    refine wpAny_Call_Name_kw (ld_glob I hg hm ?_ hdb)
    refine PySem.W.callWith_KW0 (h₀ := X.base) I.ok.mod.kin F.kp hall ?_ hpl
    refine thn (hkw.run pos pins s σ H _ I h) fun ws s2 ⟨zs, H2, I2, rz, l2, q2⟩ => ⟨I2.kIn, ?_⟩
    rw [hks]
    exact call_of (run_G G (hr.mono hk) hgd (hx σ) I2 (F.bindsK hb s2 [] ws rfl (by rw [← rz.length]; exact l2)) (permL_vals idx rz) q2)
  exact PEi h0 fun σ H Q ⟨w, δ, μ, h⟩ => ⟨w, δ, μ, by
    refine ⟨h.1, h.2.1, ?_⟩
    have h3 := h.2.2
    unfold eCallK0 at h3
    cases e : mk δ μ with
    | stuck => rw [e] at h3; exact h3.elim
    | exc x μ' => rw [e] at h3; exact h3
    | ok es μ' =>
      rw [e] at h3
      intro w' us H' le rm rs
      have l2 := hn2 _ _ _ _ e
      have rr := permL_rel idx rs
      refine ⟨by rw [← rs.length]; exact l2, sp_callP (by rw [← rr.length]; exact hi _ l2) rm rr ?_⟩
      exact Out.to_mono h3 (fun d μ2 q w3 v2 H2 le3 => q w3 v2 H2 (le.trans le3)) fun x μ2 q w3 c d H2 le3 => q w3 c d H2 (le.trans le3)⟩
end
end Kw

set_option Elab.async false
set_option linter.all false
set_option maxRecDepth 100000
namespace Kw
open PySem PySem.Spec PyProof.Rows L2
/-! ### small things for the printed texts -/
/-- a module's name -/
def GlD (K : PySem.W.Frag) (mg : Str → Option Value) (x : Str) (d : D) : Prop := ∃ v u, mg x = some u ∧ RelV v u ∧ ∀ w, RelD K mg w d v
theorem GlD.int {K : PySem.W.Frag} {mg : Str → Option Value} {x : Str} {i : Int} (h : ∃ t, mg x = some (.int i t)) : GlD K mg x (.int i) := by
  obtain ⟨t, h⟩ := h
  exact ⟨.int i, _, h, ⟨t, rfl⟩, fun w => .int i⟩
theorem ints_rel {K : PySem.W.Frag} {mg : Str → Option Value} {w : Wd} : ∀ ns : List Int, RelDs K mg w (ns.map D.int) (ns.map V.int)
  | [] => .nil
  | n :: ns => .cons (.int n) (ints_rel ns)
theorem GlD.tupI {K : PySem.W.Frag} {mg : Str → Option Value} {x : Str} {a : Addr} {vs : List V} {ds : List D} (h : mg x = some (.ref a)) (hs : ∀ H, SqT K H a vs) (hv : vs = (((intsOf ds).getD []).map V.int)) (hd : ds = ((intsOf ds).getD []).map D.int := by rfl) : GlD K mg x (.tup ds) :=
  ⟨.ref a, _, h, rfl, fun w => .tup (hs _) (by
    rw [hv]
    have := ints_rel (K := K) (mg := mg) (w := w) ((intsOf ds).getD [])
    rwa [← hd] at this)⟩
def gNeg : D → Mem → Option D
  | .int i, _ => some (.int (-i))
  | _, _ => none
def gAddI : D → D → Mem → Option D
  | .int i, .int j, _ => some (.int (i + j))
  | _, _, _ => none
section
variable {K : PySem.W.Frag} {mg : Str → Option Value} {T : List (Addr × Str)} {x y : V} {H : Hp} {Q : VK}
theorem addI_r (h : rD2 K mg T gAddI x y H Q) : rI0 (fun i j => .int (i + j)) x y H Q := by
  obtain ⟨w, μ, dx, dy, d, r, rx, ry, e, q⟩ := h
  unfold gAddI at e
  split at e
  · cases rx; cases ry; cases e
    exact ⟨_, _, rfl, rfl, q.same r (.int _)⟩
  · cases e
end
theorem u64 {k : Nat} {A : Around} (r : Room k A) : A.units + 64 < cLine := r.units
theorem u65 {k : Nat} {A : Around} (r : Room k A) : A.units + 65 < cLine := by have := r.un; omega
theorem u200 {k : Nat} {A : Around} (r : Room k A) : A.units + 200 < cLine := by have := r.un; omega
section
variable {X : Cx} {S : SI} {W : WX} {a : Expr} {ma : EM} {pos : Pos} {x : Str} {i : Nat} {d : D}
theorem pv' (i : Nat) (hN : X.N[i]? = some x := by rfl) (hv : Vis X.env.scope x := by first | exact Or.inl rfl | exact Or.inr (Or.inl rfl) | exact Or.inr (Or.inr rfl)) (hd : (x == ("__debug__" : Str)) = false := by decide)
    (hcd : (x == ("__classdict__" : Str)) = false := by decide) : PE X (.Name x pos) (TEm X S W (eVar i)) := pe_var' hN hv hd hcd
theorem pe_gD (hg : Gl X x) (h : GlD X.K X.mg x d) (hd : (x == ("__debug__" : Str)) = false := by decide) : PE X (.Name x pos) (TEm X S W (eC d)) := by
  obtain ⟨v, u, hm, r, rd⟩ := h
  exact pe_C' (pe_glob hg hm r hd) rd
theorem pa_ty0 : PA X [] (fun _ H Q => Q (([] : List String).map V.ty) H) := pa_nil
theorem pa_tyS {e : Expr} {es : List Expr} {n : String} {ns : List String} (h : PE X e (tC (.ty n))) (h2 : PA X es (fun _ H Q => Q (ns.map V.ty) H)) (hs : starEach (e :: es) X.env = (false, eval e X.env) :: starEach es X.env := by rfl) : PA X (e :: es) (fun _ H Q => Q ((n :: ns).map V.ty) H) := pa_cons h h2 hs
theorem pe_neg' (ha : PE X a (TEm X S W ma)) : PE X (.UnaryOp .USub a pos) (TEm X S W <| e1 gNeg ma) :=
  pe_1 (r := rU fun i => .int (-i)) (fun t h => pe_un un_neg h) (fun x H Q ⟨w, μ, dx, d, r, rx, e, q⟩ => by
    unfold gNeg at e
    split at e
    · cases rx; cases e
      exact ⟨_, rfl, q.same r (.int _)⟩
    · cases e) ha
end
end Kw

set_option Elab.async false
set_option linter.all false
set_option maxRecDepth 100000
namespace Kw
open PySem PySem.Spec PyProof.Rows L2
/-! ### running the plain functions -/
section
variable {α β : Type} {a : α} {μ μ1 μ2 : Mem} {x : Xn} {f : α → Mem → Out β} {k : α → Mem → SOut} {δ δ1 : Sv} {d e : D} {b : Bool}
@[simp] theorem bind_ok : (Out.ok a μ).bind f = f a μ := rfl
@[simp] theorem bind_exc : (Out.exc x μ : Out α).bind f = .exc x μ := rfl
@[simp] theorem bind_stuck : (Out.stuck : Out α).bind f = .stuck := rfl
@[simp] theorem bindS_ok : (Out.ok a μ).bindS δ k = k a μ := rfl
@[simp] theorem bindS_exc : (Out.exc x μ : Out α).bindS δ k = .exc x δ μ := rfl
@[simp] theorem bindS_stuck : (Out.stuck : Out α).bindS δ k = .stuck := rfl
@[simp] theorem oOf_some : oOf (some d) μ = .ok d μ := rfl
@[simp] theorem oOf_none : oOf none μ = .stuck := rfl
@[simp] theorem oOfM_some : oOfM (some (d, μ)) = .ok d μ := rfl
@[simp] theorem bOf_some : bOf (some b) μ = .ok b μ := rfl
@[simp] theorem eC_run : eC d δ μ = .ok d μ := rfl
@[simp] theorem then_nx {k : Sv → Mem → SOut} : (SOut.nx δ μ).then k = k δ μ := rfl
@[simp] theorem then_ret {k : Sv → Mem → SOut} : (SOut.ret d μ).then k = .ret d μ := rfl
@[simp] theorem sSeq_run {m1 m2 : SM} : sSeq m1 m2 δ μ = (m1 δ μ).then m2 := rfl
@[simp] theorem sNext_run : sNext δ μ = .nx δ μ := rfl
@[simp] theorem aNil_run : aNil δ μ = .ok [] μ := rfl
@[simp] theorem aCons_run {ma : EM} {mr : AM} : aCons ma mr δ μ = (ma δ μ).bind fun x μ1 => (mr δ μ1).bind fun xs μ2 => .ok (x :: xs) μ2 := rfl
@[simp] theorem e1_run {g : D → Mem → Option D} {ma : EM} : e1 g ma δ μ = (ma δ μ).bind fun x μ1 => oOf (g x μ1) μ1 := rfl
@[simp] theorem e2_run {g : D → D → Mem → Option D} {ma mb : EM} : e2 g ma mb δ μ = (ma δ μ).bind fun x μ1 => (mb δ μ1).bind fun y μ2 => oOf (g x y μ2) μ2 := rfl
@[simp] theorem eAs_run {g : List D → Mem → Option D} {ma : AM} : eAs g ma δ μ = (ma δ μ).bind fun xs μ1 => oOf (g xs μ1) μ1 := rfl
@[simp] theorem eAsM_run {g : List D → Mem → Option (D × Mem)} {ma : AM} : eAsM g ma δ μ = (ma δ μ).bind fun xs μ1 => oOfM (g xs μ1) := rfl
@[simp] theorem tTru_run {ma : EM} : tTru ma δ μ = (ma δ μ).bind fun x μ1 => bOf (truD μ1 x) μ1 := rfl
@[simp] theorem tNot_run {mt : TM} : tNotM mt δ μ = (mt δ μ).bind fun b μ1 => .ok (!b) μ1 := rfl
@[simp] theorem tAnd_run {ma mb : TM} : tAndM ma mb δ μ = (ma δ μ).bind fun b μ1 => if b = true then mb δ μ1 else .ok false μ1 := rfl
@[simp] theorem tOr_run {ma mb : TM} : tOrM ma mb δ μ = (ma δ μ).bind fun b μ1 => if b = true then .ok true μ1 else mb δ μ1 := rfl
@[simp] theorem tBl_run {m : EM} : tBl m δ μ = (m δ μ).bind fun d μ1 => match d with
  | .bl b => .ok b μ1
  | _ => .stuck := rfl
@[simp] theorem tYes_run : tYesM δ μ = .ok true μ := rfl
@[simp] theorem eNot_run {ma : EM} : eNotM ma δ μ = (ma δ μ).bind fun x μ1 => (bOf (truD μ1 x) μ1).bind fun b μ2 => .ok (.bl !b) μ2 := rfl
@[simp] theorem eAnd_run {ma mb : EM} : eAndM ma mb δ μ = (ma δ μ).bind fun x μ1 => (bOf (truD μ1 x) μ1).bind fun b μ2 => if b = true then mb δ μ2 else .ok x μ2 := rfl
@[simp] theorem eOr_run {ma mb : EM} : eOrM ma mb δ μ = (ma δ μ).bind fun x μ1 => (bOf (truD μ1 x) μ1).bind fun b μ2 => if b = true then .ok x μ2 else mb δ μ2 := rfl
@[simp] theorem eIf_run {mt : TM} {ma mb : EM} : eIfM mt ma mb δ μ = (mt δ μ).bind fun b μ1 => if b = true then ma δ μ1 else mb δ μ1 := rfl
@[simp] theorem sRet_run {ma : EM} : sRet ma δ μ = (ma δ μ).bindS δ fun d μ1 => .ret d μ1 := rfl
@[simp] theorem sDrop_run {ma : EM} : sDrop ma δ μ = (ma δ μ).bindS δ fun _ μ1 => .nx δ μ1 := rfl
@[simp] theorem sIf_run {mt : TM} {m1 m2 : SM} : sIf mt m1 m2 δ μ = (mt δ μ).bindS δ fun k μ1 => if k = true then m1 δ μ1 else m2 δ μ1 := rfl
@[simp] theorem sAsg_run {ma : EM} {g : GM} : sAsg ma g δ μ = (ma δ μ).bindS δ fun d μ1 => g d δ μ1 := rfl
@[simp] theorem gNm_run {i : Nat} : gNm i d δ μ = .nx (δ.set i (some d)) μ := rfl
@[simp] theorem sPar_run {i j : Nat} {ma : AM} : sPar i j ma δ μ = (ma δ μ).bindS δ fun ds μ1 => match ds with
  | [a, b] => .nx ((δ.set i (some a)).set j (some b)) μ1
  | _ => .stuck := rfl
@[simp] theorem sFor_run {mi : IM} {g : GM} {b : SM} : sFor mi g b δ μ = (mi δ μ).bindS δ fun items μ1 => loopS g b items δ μ1 := rfl
@[simp] theorem eCallP_run {m : FM} {ma : AM} : eCallP m ma δ μ = (ma δ μ).bind fun ds μ1 => callP m ds μ1 := rfl
@[simp] theorem eCallM_run {m : FM} {ma : AM} : eCallM m ma δ μ = (ma δ μ).bind fun ds μ1 => callM m ds μ1 := rfl
@[simp] theorem eCallK0_run {m : FM} {idx : List Nat} {mk : AM} : eCallK0 m idx mk δ μ = (mk δ μ).bind fun es μ2 => callP m (permL idx es) μ2 := rfl
@[simp] theorem gSubM_run {mo mi : EM} : gSubM mo mi d δ μ = (mo δ μ).bindS δ fun o μ1 => (mi δ μ1).bindS δ fun i μ2 => match gSet o i d μ2 with
  | some μ3 => .nx δ μ3
  | none => .stuck := rfl
@[simp] theorem eLc_run {mi : IM} {g : GM} {mt : TM} {me : EM} {vs : List Nat} : eLc mi g mt me vs δ μ = (mi δ μ).bind fun items μ1 => match lcL g mt me (wipeD δ vs) items μ1 with
  | .ok ys μ2 => if ys.length ≤ sizeLine then .ok (.lst ys) μ2 else .stuck
  | _ => .stuck := rfl
@[simp] theorem eMtL_run {g : D → List D → Mem → Option (D × Mem)} {mo : EM} {ma : AM} : eMtL g mo ma δ μ = (mo δ μ).bind fun x μ1 => if (lstX μ1 x).isSome = true then (ma δ μ1).bind fun xs μ2 => oOfM (g x xs μ2) else .stuck := rfl
@[simp] theorem gAdd_int {i j : Int} : gAdd (.int i) (.int j) μ = some (.int (i + j)) := rfl
@[simp] theorem gSub_int {i j : Int} : Kw.gSub (.int i) (.int j) μ = some (.int (i - j)) := rfl
@[simp] theorem gLt_int {i j : Int} : gLt (.int i) (.int j) μ = some (.bl (decide (i < j))) := rfl
@[simp] theorem gLe_int {i j : Int} : gLe (.int i) (.int j) μ = some (.bl (decide (i ≤ j))) := rfl
@[simp] theorem gGt_int {i j : Int} : gGt (.int i) (.int j) μ = some (.bl (decide (j < i))) := rfl
@[simp] theorem gGe_int {i j : Int} : gGe (.int i) (.int j) μ = some (.bl (decide (j ≤ i))) := rfl
theorem gMul_l {i j : Int} (h : -18446744073709551616 < i) (h2 : i < 18446744073709551616) : gMul (.int i) (.int j) μ = some (.int (i * j)) := if_pos (.inl (.inl ⟨by omega, h2⟩))
theorem gMul_r {i j : Int} (h : -18446744073709551616 < j) (h2 : j < 18446744073709551616) : gMul (.int i) (.int j) μ = some (.int (i * j)) := if_pos (.inl (.inr ⟨by omega, h2⟩))
theorem gMod_int {i j : Int} (h : 0 < j) : gMod (.int i) (.int j) μ = some (.int (i % j)) := if_pos h
theorem gFdv_int {i j : Int} (h : 0 < j) (h2 : j < 1073741824) : gFdv (.int i) (.int j) μ = some (.int (i / j)) := if_pos ⟨h, .inl h2⟩
theorem eqD_int {i j : Int} : eqD (.int i) (.int j) μ = some (i == j) := rfl
@[simp] theorem gEq_int {i j : Int} : gEq (.int i) (.int j) μ = some (.bl (i == j)) := rfl
@[simp] theorem gNe_int {i j : Int} : gNe (.int i) (.int j) μ = some (.bl (!(i == j))) := rfl
@[simp] theorem gNe_bl {i j : Bool} : gNe (.bl i) (.bl j) μ = some (.bl (!(i == j))) := rfl
@[simp] theorem gIsNot_bl {i j : Bool} : gIsNot (.bl i) (.bl j) μ = some (.bl (!decide (i = j))) := rfl
@[simp] theorem gIs_bl {i j : Bool} : gIs (.bl i) (.bl j) μ = some (.bl (decide (i = j))) := rfl
@[simp] theorem gInt_int {i : Int} : gInt [.int i] μ = some (.int i) := rfl
@[simp] theorem gAbs_int {i : Int} : gAbs [.int i] μ = some (.int (if i < 0 then -i else i)) := rfl
@[simp] theorem tru_bl : truD μ (.bl b) = some b := rfl
@[simp] theorem eCallP_def {m : FM} {ma : AM} : eCallP m ma δ μ = (ma δ μ).bind fun ds μ1 => callP m ds μ1 := rfl
end
/-! ### calls -/
theorem callP_ok {m : FM} {ds : List D} {μ μ' : Mem} {d : D} (h : m ds [] = .ok d μ') (hd : locBs false 0 ds = true) (hr : locB false 0 d = true) : callP m ds μ = .ok d μ := by
  unfold callP
  rw [if_pos hd, h]
  exact if_pos hr
theorem callP_lent {m : FM} {ds es : List D} {μ μ' : Mem} {d : D} (hd : locBs false 0 ds = false) (hf : frzWs (frzL μ 4) ds = some es) (h : m es [] = .ok d μ') (hr : locB true 0 d = true) : callP m ds μ = .ok d μ := by
  unfold callP
  rw [if_neg (by rw [hd]; decide), hf]
  simp only
  rw [h]
  exact if_pos hr
theorem callM_ok {m : FM} {ds : List D} {μ μ' : Mem} {d : D} (h : m ds μ = .ok d μ') (hl : μ'.length = μ.length) : callM m ds μ = .ok d μ' := by
  unfold callM
  rw [h]
  simp only
  split
  · rw [← hl, List.take_length]
  · rfl
theorem callM_new {m : FM} {ds : List D} {μ μ' : Mem} {l : Nat} (h : m ds μ = .ok (.loc l) μ') (hl : μ.length ≤ l) : callM m ds μ = .ok (.loc l) μ' := by
  unfold callM
  rw [h]
  simp only
  rw [if_neg]
  intro z
  rw [Bool.and_eq_true] at z
  have := z.1
  simp only [locB, decide_eq_true_eq] at this
  omega
/-! ### comprehensions, loops -/
theorem lcL_pure {g : GM} {mt : TM} {me : EM} {δ : Sv} {μ : Mem} {t : D → Bool} {f : D → D} : ∀ {items : List D}, (∀ d ∈ items, ∃ δ', g d δ μ = .nx δ' μ ∧ mt δ' μ = .ok (t d) μ ∧ (t d = true → me δ' μ = .ok (f d) μ)) → lcL g mt me δ items μ = .ok ((items.filter t).map f) μ
  | [], _ => rfl
  | d :: ds, h => by
    obtain ⟨δ', h1, h2, h3⟩ := h d List.mem_cons_self
    have ih := lcL_pure (fun e he => h e (List.mem_cons_of_mem _ he))
    unfold lcL
    rw [h1]
    simp only
    rw [h2]
    cases ht : t d with
    | true =>
      simp only
      rw [h3 ht]
      simp only
      rw [ih]
      simp [List.filter_cons, ht]
    | false =>
      simp only
      rw [ih]
      simp [List.filter_cons, ht]
theorem lcL_ints {g : GM} {mt : TM} {me : EM} {δ : Sv} {μ : Mem} {t : Int → Bool} {f : Int → D} : ∀ {is : List Int}, (∀ i ∈ is, ∃ δ', g (.int i) δ μ = .nx δ' μ ∧ mt δ' μ = .ok (t i) μ ∧ (t i = true → me δ' μ = .ok (f i) μ)) → lcL g mt me δ (is.map D.int) μ = .ok ((is.filter t).map f) μ
  | [], _ => rfl
  | d :: ds, h => by
    obtain ⟨δ', h1, h2, h3⟩ := h d List.mem_cons_self
    have ih := lcL_ints (fun e he => h e (List.mem_cons_of_mem _ he))
    rw [List.map_cons]
    unfold lcL
    rw [h1]
    simp only
    rw [h2]
    cases ht : t d with
    | true =>
      simp only
      rw [h3 ht]
      simp only
      rw [ih]
      simp [List.filter_cons, ht]
    | false =>
      simp only
      rw [ih]
      simp [List.filter_cons, ht]
theorem boolsOf_map {α : Type} (b : α → Bool) : ∀ l : List α, boolsOf (l.map fun i => D.bl (b i)) = some (l.map b)
  | [] => rfl
  | a :: l => by
    have := boolsOf_map b l
    simp [boolsOf, this]
theorem intsOf_map : ∀ l : List Int, intsOf (l.map D.int) = some l
  | [] => rfl
  | a :: l => by
    have := intsOf_map l
    simp [intsOf, this]
theorem loopS_nx {g : GM} {b : SM} {d : D} {ds : List D} {δ δ1 δ2 : Sv} {μ μ1 μ2 : Mem} (h1 : g d δ μ = .nx δ1 μ1) (h2 : b δ1 μ1 = .nx δ2 μ2) : loopS g b (d :: ds) δ μ = loopS g b ds δ2 μ2 := by
  conv => lhs; unfold loopS
  simp only [h1, h2]
theorem loopS_ct {g : GM} {b : SM} {d : D} {ds : List D} {δ δ1 δ2 : Sv} {μ μ1 μ2 : Mem} (h1 : g d δ μ = .nx δ1 μ1) (h2 : b δ1 μ1 = .ct δ2 μ2) : loopS g b (d :: ds) δ μ = loopS g b ds δ2 μ2 := by
  conv => lhs; unfold loopS
  simp only [h1, h2]
theorem loopS_ret {g : GM} {b : SM} {d v : D} {ds : List D} {δ δ1 : Sv} {μ μ1 μ2 : Mem} (h1 : g d δ μ = .nx δ1 μ1) (h2 : b δ1 μ1 = .ret v μ2) : loopS g b (d :: ds) δ μ = .ret v μ2 := by
  conv => lhs; unfold loopS
  simp only [h1, h2]
theorem loopS_inv {g : GM} {b : SM} {I : Sv → Mem → Prop} : ∀ {items : List D} {δ : Sv} {μ : Mem}, (∀ d ∈ items, ∀ δ μ, I δ μ → ∃ δ1 δ2 μ2, g d δ μ = .nx δ1 μ ∧ (b δ1 μ = .nx δ2 μ2 ∨ b δ1 μ = .ct δ2 μ2) ∧ I δ2 μ2) → I δ μ → ∃ δ' μ', loopS g b items δ μ = .nx δ' μ' ∧ I δ' μ'
  | [], δ, μ, _, hi => ⟨δ, μ, rfl, hi⟩
  | d :: ds, δ, μ, h, hi => by
    obtain ⟨δ1, δ2, μ2, h1, h2, h3⟩ := h d List.mem_cons_self δ μ hi
    obtain ⟨δ', μ', h4, h5⟩ := loopS_inv (items := ds) (fun e he => h e (List.mem_cons_of_mem _ he)) h3
    refine ⟨δ', μ', ?_, h5⟩
    unfold loopS
    rw [h1]
    simp only
    rcases h2 with h2 | h2 <;> rw [h2] <;> exact h4
theorem seq_ex {m1 m2 : SM} {δ δ1 : Sv} {μ μ1 : Mem} {Q : Sv → Mem → Prop} (h : m1 δ μ = .nx δ1 μ1) (h2 : ∃ δ2 μ2, m2 δ1 μ1 = .nx δ2 μ2 ∧ Q δ2 μ2) : ∃ δ2 μ2, sSeq m1 m2 δ μ = .nx δ2 μ2 ∧ Q δ2 μ2 := by
  obtain ⟨δ2, μ2, e, q⟩ := h2
  exact ⟨δ2, μ2, by rw [sSeq_run, h]; exact e, q⟩
/-! ### the law's box: its list lies at l, its two numbers are as wanted -/
def Box (μ : Mem) (l : Nat) : Prop := ∃ g x : Int, μ[l]? = some (.lst [.int g, .int x]) ∧ 0 ≤ g ∧ 1 ≤ x ∧ x ≤ 2147483647
/-- the places but l stay -/
def Stay (l : Nat) (μ μ' : Mem) : Prop := μ'.length = μ.length ∧ ∀ i, i ≠ l → μ'[i]? = μ[i]?
theorem Stay.refl (l : Nat) (μ : Mem) : Stay l μ μ := ⟨rfl, fun _ _ => rfl⟩
theorem Stay.trans {l : Nat} {a b c : Mem} (x : Stay l a b) (y : Stay l b c) : Stay l a c := ⟨y.1.trans x.1, fun i h => (y.2 i h).trans (x.2 i h)⟩
theorem Stay.set (l : Nat) (μ : Mem) (b : Ob) : Stay l μ (μ.set l b) := ⟨List.length_set .., fun i h => List.getElem?_set_ne fun e => h e.symm⟩
end Kw

set_option Elab.async false
set_option linter.all false
set_option maxRecDepth 100000
namespace K33
open PySem PySem.Spec PyProof.Rows L2 Kw
def d_PRIME : D := .int 2305843009213693951
def d_ROOT : D := .int 37
def d_DIVISORS : D := .tup [.int 2, .int 3, .int 5, .int 7, .int 11, .int 13, .int 31, .int 41, .int 61, .int 151, .int 331, .int 1321]
def m_is_integer : SM := (sRet (eAndM (e1 (gIsi ["int"]) (eVar 0)) (eNotM (e1 (gIsi ["bool"]) (eVar 0)))))
def f_is_integer : FM := bodyM 1 m_is_integer
def m_is_number : SM := (sRet (eAndM (eCallP f_is_integer (aCons (eVar 0) aNil)) (e2 gGe (eVar 0) (eC (.int 0)))))
def f_is_number : FM := bodyM 1 m_is_number
def m_is_below : SM := (sRet (eAndM (eCallP f_is_number (aCons (eVar 0) aNil)) (e2 gLt (eVar 0) (eVar 1))))
def f_is_below : FM := bodyM 2 m_is_below
def m_is_sequence : SM := (sRet (e1 (gIsi ["list", "tuple"]) (eVar 0)))
def f_is_sequence : FM := bodyM 1 m_is_sequence
def m_power_of : SM := (sSeq (sPar 3 4 (aCons (e2 gMod (eC (.int 1)) (eVar 2)) (aCons (e2 gMod (eVar 0) (eVar 2)) aNil))) (sSeq (sWhile (fun _ _ => 200) (tBl (e2 gGt (eVar 1) (eC (.int 0)))) (sSeq (sIf (tBl (e2 gEq (e2 gMod (eVar 1) (eC (.int 2))) (eC (.int 1)))) (sAsg (e2 gMod (e2 gMul (eVar 3) (eVar 4)) (eVar 2)) (gNm 3)) sNext) (sSeq (sAsg (e2 gMod (e2 gMul (eVar 4) (eVar 4)) (eVar 2)) (gNm 4)) (sAug 1 gFdv (eC (.int 2)))))) (sRet (eVar 3))))
def f_power_of : FM := bodyM 5 m_power_of
def m_is_plain_prime : SM := (sSeq (sIf (tOrM (tNotM (tTru (eCallP f_is_below (aCons (eVar 0) (aCons (eC (.int 10000)) aNil))))) (tBl (e2 gLt (eVar 0) (eC (.int 2))))) (sRet (eC (.bl false))) sNext) (sRet (eAs gAll (aCons (eLc (iRange2 (aCons (eC (.int 2)) (aCons (eC (.int 100)) aNil))) (gNm 1) (tBl (e2 gLe (e2 gMul (eVar 1) (eVar 1)) (eVar 0))) (e2 gNe (e2 gMod (eVar 0) (eVar 1)) (eC (.int 0))) [1]) aNil))))
def f_is_plain_prime : FM := bodyM 2 m_is_plain_prime
def m_prime_paper : SM := (sRet (eAs gTupD (aCons (eC d_ROOT) (aCons (eC d_DIVISORS) aNil))))
def f_prime_paper : FM := bodyM 0 m_prime_paper
def m_without_divisor : SM := (sSeq (sWhile (fun _ _ => 100) (tBl (e2 gEq (e2 gMod (eVar 0) (eVar 1)) (eC (.int 0)))) (sAug 0 gFdv (eVar 1))) (sRet (eVar 0)))
def f_without_divisor : FM := bodyM 2 m_without_divisor
def m_prime_holds : SM := (sSeq (sIf (tOrM (tNotM (tTru (eCallP f_is_sequence (aCons (eVar 1) aNil)))) (tOrM (tBl (e2 gNe (eAs gLen (aCons (eVar 1) aNil)) (eC (.int 2)))) (tNotM (tTru (eCallP f_is_sequence (aCons (e2 gIx (eVar 1) (eC (.int 1))) aNil)))))) (sRet (eC (.bl false))) sNext) (sSeq (sAsg (eVar 1) (gSeq 2 (gsCons (gNm 2) (gsCons (gNm 3) gsNil)))) (sSeq (sIf (tOrM (tNotM (tTru (eCallP f_is_below (aCons (eVar 2) (aCons (eVar 0) aNil))))) (tOrM (tBl (e2 gEq (eVar 2) (eC (.int 0)))) (tNotM (tTru (eAs gAll (aCons (eLc (iSeq (eVar 3)) (gNm 5) tYesM (eCallP f_is_plain_prime (aCons (eVar 5) aNil)) [5]) aNil)))))) (sRet (eC (.bl false))) sNext) (sSeq (sAsg (e2 Kw.gSub (eVar 0) (eC (.int 1))) (gNm 4)) (sSeq (sFor (iSeq (eVar 3)) (gNm 5) (sSeq (sIf (tBl (e2 gNe (e2 gMod (eVar 4) (eVar 5)) (eC (.int 0)))) (sRet (eC (.bl false))) sNext) (sAsg (eCallP f_without_divisor (aCons (eVar 4) (aCons (eVar 5) aNil))) (gNm 4)))) (sSeq (sIf (tOrM (tBl (e2 gNe (eVar 4) (eC (.int 1)))) (tBl (e2 gNe (eCallP f_power_of (aCons (eVar 2) (aCons (e2 Kw.gSub (eVar 0) (eC (.int 1))) (aCons (eVar 0) aNil)))) (e2 gMod (eC (.int 1)) (eVar 0))))) (sRet (eC (.bl false))) sNext) (sRet (eAs gAll (aCons (eLc (iSeq (eVar 3)) (gNm 5) tYesM (e2 gNe (eCallP f_power_of (aCons (eVar 2) (aCons (e2 gFdv (e2 Kw.gSub (eVar 0) (eC (.int 1))) (eVar 5)) (aCons (eVar 0) aNil)))) (eC (.int 1))) [5]) aNil)))))))))
def f_prime_holds : FM := bodyM 6 m_prime_holds
def m__law_box : SM := (sSeq (sAsg (e2 gAdd (e2 gMul (eC (.int 8419)) (eVar 1)) (eC (.int 173))) (gNm 2)) (sSeq (sIf (tBl (e2 gLt (eVar 1) (eAs gLen (aCons (eVar 0) aNil)))) (sAsg (eAs gAbs (aCons (eAs gInt (aCons (e2 gIx (eVar 0) (eVar 1)) aNil)) aNil)) (gNm 2)) (sIf (tBl (e2 gGt (eAs gLen (aCons (eVar 0) aNil)) (eC (.int 0)))) (sAsg (e2 gAdd (eVar 2) (e2 gMul (e2 gMod (eAs gInt (aCons (eAs gAbs (aCons (eAs gInt (aCons (e2 gIx (eVar 0) (e2 gMod (eAs gInt (aCons (eVar 1) aNil)) (eAs gLen (aCons (eVar 0) aNil)))) aNil)) aNil)) aNil)) (eC (.int 2147483587))) (eC (.int 50551)))) (gNm 2)) sNext)) (sSeq (sAsg (eIfM (tBl (e2 gGe (eVar 2) (e2 gPow (eC (.int 10)) (eC (.int 18))))) (eVar 2) (eC (.int 0))) (gNm 3)) (sRet (eAsM gNewL (aCons (eVar 3) (aCons (e2 gAdd (e2 gMod (eAs gInt (aCons (e2 gAdd (e2 gMul (e2 gMod (eAs gInt (aCons (eVar 2) aNil)) (eC (.int 2147483587))) (eC (.int 69767))) (e2 gMul (eC (.int 173)) (eVar 1))) aNil)) (eC (.int 2147483587))) (eC (.int 1))) aNil)))))))
def f__law_box : FM := bodyM 4 m__law_box
def m__law_take : SM := (sSeq (sIf (tBl (e2 gGt (e2 gIx (eVar 0) (eC (.int 0))) (eC (.int 0)))) (sSeq (sAsg (e2 gMod (eAs gInt (aCons (e2 gIx (eVar 0) (eC (.int 0))) aNil)) (eVar 1)) (gNm 2)) (sSeq (sAsg (e2 gFdv (e2 gIx (eVar 0) (eC (.int 0))) (eVar 1)) (gSubM (eVar 0) (eC (.int 0)))) (sRet (eVar 2)))) sNext) (sSeq (sAsg (e2 gMod (eAs gInt (aCons (e2 gAdd (e2 gMul (e2 gIx (eVar 0) (eC (.int 1))) (eC (.int 40692))) (eC (.int 89))) aNil)) (eC (.int 2147483399))) (gNm 3)) (sSeq (sAsg (e2 gAdd (e2 gMod (eAs gInt (aCons (e2 gAdd (e2 gMul (eVar 3) (eC (.int 39373))) (eC (.int 41))) aNil)) (eC (.int 2147483587))) (eC (.int 1))) (gSubM (eVar 0) (eC (.int 1)))) (sRet (e2 gMod (eAs gInt (aCons (e2 gFdv (e2 gAdd (e2 gMul (eVar 3) (eC (.int 2147483629))) (e2 gIx (eVar 0) (eC (.int 1)))) (eC (.int 8171))) aNil)) (eVar 1))))))
def f__law_take : FM := bodyM 4 m__law_take
def m__law_pick : SM := (sRet (e2 gIx (eVar 1) (eCallM f__law_take (aCons (eVar 0) (aCons (eAs gLen (aCons (eVar 1) aNil)) aNil)))))
def f__law_pick : FM := bodyM 2 m__law_pick
def m__law_octets : SM := (sSeq (sAsg (eAsM gNewL aNil) (gNm 3)) (sSeq (sFor (iRange1 (aCons (eCallM f__law_take (aCons (eVar 0) (aCons (e2 gAdd (eVar 1) (eC (.int 1))) aNil))) aNil)) (gNm 4) (sDrop (eMtL gAppend (eVar 3) (aCons (eIfM (tBl (e2 gGt (eCallM f__law_take (aCons (eVar 0) (aCons (eC (.int 30)) aNil))) (eC (.int 0)))) (eCallM f__law_take (aCons (eVar 0) (aCons (eVar 2) aNil))) (eCallM f__law_take (aCons (eVar 0) (aCons (eC (.int 256)) aNil)))) aNil)))) (sRet (eAs gTuple (aCons (eVar 3) aNil)))))
def f__law_octets : FM := bodyM 5 m__law_octets
def m__law_is_prime : SM := (sRet (eAndM (e2 gGt (eVar 0) (eC (.int 1))) (e2 gEq (eLc (iRange2 (aCons (eC (.int 2)) (aCons (eVar 0) aNil))) (gNm 1) (tAndM (tBl (e2 gLe (e2 gMul (eVar 1) (eVar 1)) (eVar 0))) (tBl (e2 gEq (e2 gMod (eAs gInt (aCons (eVar 0) aNil)) (eVar 1)) (eC (.int 0))))) (eVar 1) [1]) (eAs gLstD aNil))))
def f__law_is_prime : FM := bodyM 2 m__law_is_prime
def m__law_divisors : SM := (sRet (eLc (iRange2 (aCons (eC (.int 2)) (aCons (e2 gAdd (eVar 0) (eC (.int 1))) aNil))) (gNm 1) (tAndM (tBl (e2 gEq (e2 gMod (eAs gInt (aCons (eVar 0) aNil)) (eVar 1)) (eC (.int 0)))) (tTru (eCallP f__law_is_prime (aCons (eVar 1) aNil)))) (eVar 1) [1]))
def f__law_divisors : FM := bodyM 2 m__law_divisors
def m__law_powers : SM := (sSeq (sAsg (e2 gMod (eAs gInt (aCons (eVar 0) aNil)) (eVar 1)) (gNm 2)) (sSeq (sFor (iRange2 (aCons (eC (.int 1)) (aCons (eVar 1) aNil))) (gNm 3) (sSeq (sIf (tBl (e2 gEq (eVar 2) (e2 gMod (eAs gInt (aCons (eC (.int 1)) aNil)) (eVar 1)))) (sRet (eVar 3)) sNext) (sAsg (e2 gMod (eAs gInt (aCons (e2 gMul (eVar 2) (eVar 0)) aNil)) (eVar 1)) (gNm 2)))) (sRet (eC (.int 0)))))
def f__law_powers : FM := bodyM 4 m__law_powers
def m_law_b1 : SM := (sSeq (sAsg (eIfM (tAndM (tBl (e2 gNe (eVar 6) (eAs gLstD aNil))) (tBl (e2 gEq (eCallM f__law_take (aCons (eVar 2) (aCons (eC (.int 2)) aNil))) (eC (.int 0))))) (eCallM f__law_pick (aCons (eVar 2) (aCons (eVar 6) aNil))) (e2 gAdd (eC (.int 1)) (eCallM f__law_take (aCons (eVar 2) (aCons (e2 Kw.gSub (eVar 3) (eC (.int 1))) aNil))))) (gNm 8)) (sSeq (sAsg (e2 gEq (eCallP f__law_powers (aCons (eVar 8) (aCons (eVar 3) aNil))) (e2 Kw.gSub (eVar 3) (eC (.int 1)))) (gNm 9)) (sSeq (sAsg (eIfM (tBl (e2 gEq (eCallM f__law_take (aCons (eVar 2) (aCons (eC (.int 2)) aNil))) (eC (.int 0)))) (eAs gLstD (aCons (eVar 8) (aCons (eAs gList (aCons (e1 gRevL (eVar 4)) aNil)) aNil))) (eAs gTupD (aCons (eVar 8) (aCons (eAs gTuple (aCons (eVar 4) aNil)) aNil)))) (gNm 10)) (sSeq (sIf (tBl (e2 gNe (eAs gRepr (aCons (eAs gLstD (aCons (eCallP f_prime_holds (aCons (eVar 3) (aCons (eVar 10) aNil))) (aCons (eCallK0 f_prime_holds [1, 0] (aCons (eVar 10) (aCons (eVar 3) aNil))) aNil))) aNil)) (eAs gRepr (aCons (eAs gLstD (aCons (eVar 9) (aCons (eVar 9) aNil))) aNil)))) (sRet (eC (.bl false))) sNext) (sSeq (sIf (tBl (e2 gNe (eVar 4) (eAs gLstD aNil))) (sSeq (sAsg (eNewSl (eVar 4) oNo oNo) (gNm 11)) (sSeq (sDrop (eMtL gPop (eVar 11) (aCons (eCallM f__law_take (aCons (eVar 2) (aCons (eAs gLen (aCons (eVar 11) aNil)) aNil))) aNil))) (sIf (tBl (e2 gIsNot (eCallP f_prime_holds (aCons (eVar 3) (aCons (eAs gTupD (aCons (eVar 8) (aCons (eVar 11) aNil))) aNil))) (eC (.bl false)))) (sRet (eC (.bl false))) sNext))) sNext) (sSeq (sAsg (eCallM f__law_pick (aCons (eVar 2) (aCons (eLc (iSeq (eAs gLstD (aCons (eC (.int 2)) (aCons (eC (.int 3)) (aCons (eC (.int 5)) (aCons (eC (.int 7)) (aCons (eC (.int 11)) (aCons (eC (.int 13)) (aCons (eC (.int 4)) (aCons (eC (.int 9)) (aCons (eC (.int 1)) (aCons (eC (.int 0)) (aCons (eC .non) aNil))))))))))))) (gNm 17) (tBl (e2 gNin (eVar 17) (eVar 4))) (eVar 17) [17]) aNil))) (gNm 12)) (sIf (tBl (e2 gIsNot (eCallP f_prime_holds (aCons (eVar 3) (aCons (eAs gTupD (aCons (eVar 8) (aCons (e2 gAdd (eVar 4) (eAs gLstD (aCons (eVar 12) aNil))) aNil))) aNil))) (eC (.bl false)))) (sRet (eC (.bl false))) sNext)))))))
def m_law_b2 : SM := (sSeq (sAsg (eCallM f__law_box (aCons (eVar 0) (aCons (eVar 1) aNil))) (gNm 2)) (sSeq (sAsg (e2 gAdd (eC (.int 2)) (eCallM f__law_take (aCons (eVar 2) (aCons (eCallM f__law_pick (aCons (eVar 2) (aCons (eAs gLstD (aCons (eC (.int 12)) (aCons (eC (.int 60)) (aCons (eC (.int 200)) aNil)))) aNil))) aNil)))) (gNm 3)) (sSeq (sAsg (eAs gTupD (aCons (eIfM (tBl (e2 gGt (eVar 3) (eC (.int 2)))) (eCallP f__law_divisors (aCons (e2 Kw.gSub (eVar 3) (eC (.int 1))) aNil)) (eAs gLstD aNil)) (aCons (eCallP f__law_is_prime (aCons (eVar 3) aNil)) aNil))) (gSeq 2 (gsCons (gNm 4) (gsCons (gNm 5) gsNil)))) (sSeq (sAsg (eLc (iRange2 (aCons (eC (.int 1)) (aCons (eVar 3) aNil))) (gNm 8) (tBl (e2 gEq (eCallP f__law_powers (aCons (eVar 8) (aCons (eVar 3) aNil))) (e2 Kw.gSub (eVar 3) (eC (.int 1))))) (eVar 8) [8]) (gNm 6)) (sSeq (sIf (tBl (e2 gNe (e2 gNe (eVar 6) (eAs gLstD aNil)) (eVar 5))) (sRet (eC (.bl false))) sNext) (sSeq (sFor (iRange1 (aCons (eC (.int 6)) aNil)) (gNm 7) m_law_b1) (sSeq (sAsg (eCallM f__law_pick (aCons (eVar 2) (aCons (eAs gLstD (aCons (eC .non) (aCons (eAs gTupD aNil) (aCons (eAs gTupD (aCons (eC (.int 1)) aNil)) (aCons (eAs gTupD (aCons (eVar 3) (aCons (eVar 4) aNil))) (aCons (eAs gTupD (aCons (eC (.int 0)) (aCons (eVar 4) aNil))) (aCons (eAs gTupD (aCons (eC (.bl true)) (aCons (eVar 4) aNil))) (aCons (eAs gTupD (aCons (eC (.int 1)) (aCons (eC .non) aNil))) (aCons (eC (.str "1")) (aCons (eC (.int 5)) (aCons (eAs gTupD (aCons (eC (.int 1)) (aCons (eVar 4) (aCons (eC (.int 0)) aNil)))) aNil))))))))))) aNil))) (gNm 13)) (sIf (tBl (e2 gIsNot (eCallP f_prime_holds (aCons (eVar 3) (aCons (eVar 13) aNil))) (eC (.bl false)))) (sRet (eC (.bl false))) sNext))))))))
def m_law_b3 : SM := (sIf (tBl (e2 gEq (e2 gMod (eAs gInt (aCons (eVar 16) aNil)) (eVar 17)) (eC (.int 0)))) (sPar 16 15 (aCons (e2 gFdv (eVar 16) (eVar 17)) (aCons (e2 gMul (eVar 15) (eVar 17)) aNil))) sNext)
def m_law_b4 : SM := (sSeq (sIf (tNotM (tTru (eCallP f__law_is_prime (aCons (eVar 17) aNil)))) (sRet (eC (.bl false))) sNext) (sFor (iRange1 (aCons (eC (.int 61)) aNil)) (gNm 7) m_law_b3))
def m_law : SM := (sSeq (sFor (iRange1 (aCons (eC (.int 3)) aNil)) (gNm 1) m_law_b2) (sSeq (sAsg (eCall0 f_prime_paper) (gNm 14)) (sSeq (sIf (tOrM (tNotM (tTru (e1 (gIsi ["tuple"]) (eVar 14)))) (tOrM (tNotM (tTru (e1 (gIsi ["tuple"]) (e2 gIx (eVar 14) (eC (.int 1)))))) (tBl (e2 gIsNot (eCallP f_prime_holds (aCons (eC d_PRIME) (aCons (eVar 14) aNil))) (eC (.bl true)))))) (sRet (eC (.bl false))) sNext) (sSeq (sPar 15 16 (aCons (eC (.int 1)) (aCons (e2 Kw.gSub (eC d_PRIME) (eC (.int 1))) aNil))) (sSeq (sFor (iSeq (e2 gIx (eVar 14) (eC (.int 1)))) (gNm 17) m_law_b4) (sRet (eAndM (e2 gEq (eVar 16) (eC (.int 1))) (e2 gIs (eCallP f_prime_holds (aCons (e2 gAdd (eC d_PRIME) (eC (.int 2))) (aCons (eVar 14) aNil))) (eC (.bl false))))))))))
def f_law : FM := bodyM 18 m_law
end K33

set_option Elab.async false
set_option linter.all false
set_option maxRecDepth 100000
namespace K33
open PySem PySem.Spec PyProof.Rows L2 Kw
def top (i : Nat) : Stmt := PySem.Challenge.pw_keptwhole_k33_powers_that_show_a_prime.main.body.getD i (.Pass ⟨0, 0, 0, 0⟩)
section
variable {P : Program} {w : World} {K : PySem.W.Frag} {mg : Str → Option Value} {base : Heap} {T : List (Addr × Str)} {f : Addr} {fd : FuncData}
abbrev s_is_integer : Stmt := top 1
abbrev N_is_integer : List Str := ["value"]
theorem sc_is_integer : FnScope N_is_integer ["value"] (defScope s_is_integer) := ⟨rfl, rfl, rfl, by decide +kernel, rfl, by decide +kernel, by decide +kernel⟩
theorem ok_is_integer (F : FnP K "is_integer" s_is_integer f fd) (gm : mg "is_integer" = some (.ref f)) (b_isinstance : mg "isinstance" = none) (b_int : mg "int" = none) (b_bool : mg "bool" = none) : CalD P w K mg base T "is_integer" s_is_integer 1 ["value"] f_is_integer :=
  CalD.mk' F gm (fun _ _ _ _ _ _ us hl => match us, hl with | [_], _ => rfl) (fnG_of F sc_is_integer rfl fun cdv A outer s H E hr hgd tk =>
    have sc := sc_is_integer
    (pss_one' (ps_ret' (pe_and' (pe_isi1 (n := "int") (by decide) rfl b_isinstance (pe_bltn rfl b_int (by decide +kernel) rfl) (pv' 0)) (pe_and1' (pe_not' (pe_isi1 (n := "bool") (by decide) rfl b_isinstance (pe_bltn rfl b_bool (by decide +kernel) rfl) (pv' 0))))))))
abbrev s_is_number : Stmt := top 2
abbrev N_is_number : List Str := ["value"]
theorem sc_is_number : FnScope N_is_number ["value"] (defScope s_is_number) := ⟨rfl, rfl, rfl, by decide +kernel, rfl, by decide +kernel, by decide +kernel⟩
theorem ok_is_number (F : FnP K "is_number" s_is_number f fd) (gm : mg "is_number" = some (.ref f)) (C_is_integer : CalD P w K mg base T "is_integer" s_is_integer 1 ["value"] f_is_integer) : CalD P w K mg base T "is_number" s_is_number 2 ["value"] f_is_number :=
  CalD.mk' F gm (fun _ _ _ _ _ _ us hl => match us, hl with | [_], _ => rfl) (fnG_of F sc_is_number rfl fun cdv A outer s H E hr hgd tk =>
    have sc := sc_is_number
    (pss_one' (ps_ret' (pe_and' (pe_P C_is_integer (passT tk) hr (by decide) hgd rfl (pa_cons' (pv' 0) pa_nil') (aCons_len aNil_len) rfl) (pe_and1' (pe_ge' (pv' 0) (pe_C' pe_int fun _ => .int _)))))))
abbrev s_is_below : Stmt := top 3
abbrev N_is_below : List Str := ["value", "most"]
theorem sc_is_below : FnScope N_is_below ["value", "most"] (defScope s_is_below) := ⟨rfl, rfl, rfl, by decide +kernel, rfl, by decide +kernel, by decide +kernel⟩
theorem ok_is_below (F : FnP K "is_below" s_is_below f fd) (gm : mg "is_below" = some (.ref f)) (C_is_number : CalD P w K mg base T "is_number" s_is_number 2 ["value"] f_is_number) : CalD P w K mg base T "is_below" s_is_below 3 ["value", "most"] f_is_below :=
  CalD.mk' F gm (fun _ _ _ _ _ _ us hl => match us, hl with | [_, _], _ => rfl) (fnG_of F sc_is_below rfl fun cdv A outer s H E hr hgd tk =>
    have sc := sc_is_below
    (pss_one' (ps_ret' (pe_and' (pe_P C_is_number (passT tk) hr (by decide) hgd rfl (pa_cons' (pv' 0) pa_nil') (aCons_len aNil_len) rfl) (pe_and1' (pe_lt' (pv' 0) (pv' 1)))))))
abbrev s_is_sequence : Stmt := top 4
abbrev N_is_sequence : List Str := ["value"]
theorem sc_is_sequence : FnScope N_is_sequence ["value"] (defScope s_is_sequence) := ⟨rfl, rfl, rfl, by decide +kernel, rfl, by decide +kernel, by decide +kernel⟩
theorem ok_is_sequence (F : FnP K "is_sequence" s_is_sequence f fd) (gm : mg "is_sequence" = some (.ref f)) (b_isinstance : mg "isinstance" = none) (b_tuple : mg "tuple" = none) (b_list : mg "list" = none) : CalD P w K mg base T "is_sequence" s_is_sequence 1 ["value"] f_is_sequence :=
  CalD.mk' F gm (fun _ _ _ _ _ _ us hl => match us, hl with | [_], _ => rfl) (fnG_of F sc_is_sequence rfl fun cdv A outer s H E hr hgd tk =>
    have sc := sc_is_sequence
    (pss_one' (ps_ret' (pe_isiT (ns := ["list", "tuple"]) (by decide) (by decide) rfl b_isinstance (pa_tyS (pe_bltn (v := .ty "list") rfl b_list (by decide +kernel) rfl) (pa_tyS (pe_bltn (v := .ty "tuple") rfl b_tuple (by decide +kernel) rfl) pa_ty0)) (pv' 0)))))
abbrev s_power_of : Stmt := top 9
abbrev N_power_of : List Str := ["base", "many", "modulus", "found", "square"]
theorem sc_power_of : FnScope N_power_of ["base", "many", "modulus"] (defScope s_power_of) := ⟨rfl, rfl, rfl, by decide +kernel, rfl, by decide +kernel, by decide +kernel⟩
theorem ok_power_of (F : FnP K "power_of" s_power_of f fd) (gm : mg "power_of" = some (.ref f))  : CalD P w K mg base T "power_of" s_power_of 1 ["base", "many", "modulus"] f_power_of :=
  CalD.mk' F gm (fun _ _ _ _ _ _ us hl => match us, hl with | [_, _, _], _ => rfl) (fnG_of F sc_power_of rfl fun cdv A outer s H E hr hgd tk =>
    have sc := sc_power_of
    (pss_cons' (ps_par' (i := 3) (j := 4) rfl sc.nd rfl rfl (by decide) rfl rfl (pa_cons' (pe_mod' (pe_C' pe_int fun _ => .int _) (pv' 2)) (pa_cons' (pe_mod' (pv' 0) (pv' 2)) pa_nil')) (by with_unfolding_all rfl)) (pss_cons' (ps_while' (passes_of rfl) (pt_gt' (pv' 1) (pe_C' pe_int fun _ => .int _)) (pss_cons' (ps_if' (pt_eq' (u64 hr) (pe_mod' (pv' 1) (pe_C' pe_int fun _ => .int _)) (pe_C' pe_int fun _ => .int _)) (pss_one' (ps_set' (i := 3) sc.nd rfl (by first | exact Or.inl rfl | exact Or.inr rfl) (pe_mod' (pe_mul' (pv' 3) (pv' 4)) (pv' 2)))) pss_nil') (pss_cons' (ps_set' (i := 4) sc.nd rfl (by first | exact Or.inl rfl | exact Or.inr rfl) (pe_mod' (pe_mul' (pv' 4) (pv' 4)) (pv' 2))) (pss_one' (ps_aug' (i := 1) (iop_fdiv.or iop_fdivW) (fun _ _ _ _ => fdv_r) sc.nd rfl (by first | exact Or.inl rfl | exact Or.inr rfl) (pe_C' pe_int fun _ => .int _)))))) (pss_one' (ps_ret' (pv' 3))))))
abbrev s_is_plain_prime : Stmt := top 10
abbrev N_is_plain_prime : List Str := ["value", "one"]
theorem sc_is_plain_prime : FnScope N_is_plain_prime ["value"] (defScope s_is_plain_prime) := ⟨rfl, rfl, rfl, by decide +kernel, rfl, by decide +kernel, by decide +kernel⟩
theorem ok_is_plain_prime (F : FnP K "is_plain_prime" s_is_plain_prime f fd) (gm : mg "is_plain_prime" = some (.ref f)) (b_all : mg "all" = none) (b_range : mg "range" = none) (C_is_below : CalD P w K mg base T "is_below" s_is_below 3 ["value", "most"] f_is_below) : CalD P w K mg base T "is_plain_prime" s_is_plain_prime 4 ["value"] f_is_plain_prime :=
  CalD.mk' F gm (fun _ _ _ _ _ _ us hl => match us, hl with | [_], _ => rfl) (fnG_of F sc_is_plain_prime rfl fun cdv A outer s H E hr hgd tk =>
    have sc := sc_is_plain_prime
    (pss_cons' (ps_if' (PW.pt (pw_or' (pt_not' (pt_tru' (pe_P C_is_below (passT tk) hr (by decide) hgd rfl (pa_cons' (pv' 0) (pa_cons' (pe_C' pe_int fun _ => .int _) pa_nil')) (aCons_len (aCons_len aNil_len)) rfl))) (pw_or1' (pt_lt' (pv' 0) (pe_C' pe_int fun _ => .int _))))) (pss_one' (ps_ret' (pe_C' pe_bl fun _ => .bl _))) pss_nil') (pss_one' (ps_ret' (pe_all' rfl rfl b_all (pa_cons' (pe_lc' (own := [("one", 1)]) rfl sc.nd (pi_range2' rfl b_range (pa_cons' (pe_C' pe_int fun _ => .int _) (pa_cons' (pe_C' pe_int fun _ => .int _) pa_nil'))) (blkOk_by (N := N_is_plain_prime) (sc := defScope s_is_plain_prime) (own := [("one", 1)]) (by decide +kernel)) (nmTg (by decide)) (fun _ _ _ _ _ => (pg_name (i := 1) sc.nd rfl (by first | exact Or.inl rfl | exact Or.inr rfl))) (fun _ _ _ _ _ => (pts_one' (pt_le' (pe_mul' (pv' 1) (pv' 1)) (pv' 0)))) (fun _ _ _ _ _ => (pe_ne' (u64 hr) (pe_mod' (pv' 0) (pv' 1)) (pe_C' pe_int fun _ => .int _)))) pa_nil'))))))
abbrev s_prime_paper : Stmt := top 11
abbrev N_prime_paper : List Str := []
theorem sc_prime_paper : FnScope N_prime_paper [] (defScope s_prime_paper) := ⟨rfl, rfl, rfl, by decide +kernel, rfl, by decide +kernel, by decide +kernel⟩
theorem ok_prime_paper (F : FnP K "prime_paper" s_prime_paper f fd) (gm : mg "prime_paper" = some (.ref f)) (c_ROOT : GlD K mg "ROOT" d_ROOT) (c_DIVISORS : GlD K mg "DIVISORS" d_DIVISORS) : CalD P w K mg base T "prime_paper" s_prime_paper 1 [] f_prime_paper :=
  CalD.mk' F gm (fun _ _ _ _ _ _ us hl => match us, hl with | [], _ => rfl) (fnG_of F sc_prime_paper rfl fun cdv A outer s H E hr hgd tk =>
    have sc := sc_prime_paper
    (pss_one' (ps_ret' (pe_tup' (pa_cons' (pe_gD rfl c_ROOT) (pa_cons' (pe_gD rfl c_DIVISORS) pa_nil'))))))
abbrev s_without_divisor : Stmt := top 12
abbrev N_without_divisor : List Str := ["number", "one"]
theorem sc_without_divisor : FnScope N_without_divisor ["number", "one"] (defScope s_without_divisor) := ⟨rfl, rfl, rfl, by decide +kernel, rfl, by decide +kernel, by decide +kernel⟩
theorem ok_without_divisor (F : FnP K "without_divisor" s_without_divisor f fd) (gm : mg "without_divisor" = some (.ref f))  : CalD P w K mg base T "without_divisor" s_without_divisor 1 ["number", "one"] f_without_divisor :=
  CalD.mk' F gm (fun _ _ _ _ _ _ us hl => match us, hl with | [_, _], _ => rfl) (fnG_of F sc_without_divisor rfl fun cdv A outer s H E hr hgd tk =>
    have sc := sc_without_divisor
    (pss_cons' (ps_while' (passes_of rfl) (pt_eq' (u64 hr) (pe_mod' (pv' 0) (pv' 1)) (pe_C' pe_int fun _ => .int _)) (pss_one' (ps_aug' (i := 0) (iop_fdiv.or iop_fdivW) (fun _ _ _ _ => fdv_r) sc.nd rfl (by first | exact Or.inl rfl | exact Or.inr rfl) (pv' 1)))) (pss_one' (ps_ret' (pv' 0)))))
abbrev s_prime_holds : Stmt := top 13
abbrev N_prime_holds : List Str := ["number", "value", "root", "primes", "rest", "one"]
theorem sc_prime_holds : FnScope N_prime_holds ["number", "value"] (defScope s_prime_holds) := ⟨rfl, rfl, rfl, by decide +kernel, rfl, by decide +kernel, by decide +kernel⟩
theorem ok_prime_holds (F : FnP K "prime_holds" s_prime_holds f fd) (gm : mg "prime_holds" = some (.ref f)) (b_len : mg "len" = none) (b_all : mg "all" = none) (C_is_sequence : CalD P w K mg base T "is_sequence" s_is_sequence 1 ["value"] f_is_sequence) (C_is_below : CalD P w K mg base T "is_below" s_is_below 3 ["value", "most"] f_is_below) (C_is_plain_prime : CalD P w K mg base T "is_plain_prime" s_is_plain_prime 4 ["value"] f_is_plain_prime) (C_without_divisor : CalD P w K mg base T "without_divisor" s_without_divisor 1 ["number", "one"] f_without_divisor) (C_power_of : CalD P w K mg base T "power_of" s_power_of 1 ["base", "many", "modulus"] f_power_of) : CalD P w K mg base T "prime_holds" s_prime_holds 5 ["number", "value"] f_prime_holds :=
  CalD.mk' F gm (fun _ _ _ _ _ _ us hl => match us, hl with | [_, _], _ => rfl) (fnG_of F sc_prime_holds rfl fun cdv A outer s H E hr hgd tk =>
    have sc := sc_prime_holds
    (pss_cons' (ps_if' (PW.pt (pw_or' (pt_not' (pt_tru' (pe_P C_is_sequence (passT tk) hr (by decide) hgd rfl (pa_cons' (pv' 1) pa_nil') (aCons_len aNil_len) rfl))) (pw_or' (pt_ne' (u64 hr) (pe_len' rfl b_len (pa_cons' (pv' 1) pa_nil')) (pe_C' pe_int fun _ => .int _)) (pw_or1' (pt_not' (pt_tru' (pe_P C_is_sequence (passT tk) hr (by decide) hgd rfl (pa_cons' (pe_ix' (fun _ _ => rfl) (pv' 1) (pe_C' pe_int fun _ => .int _)) pa_nil') (aCons_len aNil_len) rfl))))))) (pss_one' (ps_ret' (pe_C' pe_bl fun _ => .bl _))) pss_nil') (pss_cons' (ps_asg' (pv' 1) (pg_seq' (n := 2) rfl (pgs_cons' (pg_name' (i := 2) sc.nd rfl (by first | exact Or.inl rfl | exact Or.inr rfl)) (pgs_cons' (pg_name' (i := 3) sc.nd rfl (by first | exact Or.inl rfl | exact Or.inr rfl)) pgs_nil')))) (pss_cons' (ps_if' (PW.pt (pw_or' (pt_not' (pt_tru' (pe_P C_is_below (passT tk) hr (by decide) hgd rfl (pa_cons' (pv' 2) (pa_cons' (pv' 0) pa_nil')) (aCons_len (aCons_len aNil_len)) rfl))) (pw_or' (pt_eq' (u64 hr) (pv' 2) (pe_C' pe_int fun _ => .int _)) (pw_or1' (pt_not' (pt_tru' (pe_all' rfl rfl b_all (pa_cons' (pe_lc' (own := [("one", 5)]) rfl sc.nd (pi_seq' (pv' 3)) (blkOk_by (N := N_prime_holds) (sc := defScope s_prime_holds) (own := [("one", 5)]) (by decide +kernel)) (nmTg (by decide)) (fun _ _ _ _ _ => (pg_name (i := 5) sc.nd rfl (by first | exact Or.inl rfl | exact Or.inr rfl))) (fun _ _ _ _ _ => pts_nil') (fun _ _ _ _ _ => (pe_P C_is_plain_prime pass0 hr (by decide) hgd rfl (pa_cons' (pv' 5) pa_nil') (aCons_len aNil_len) rfl))) pa_nil')))))))) (pss_one' (ps_ret' (pe_C' pe_bl fun _ => .bl _))) pss_nil') (pss_cons' (ps_set' (i := 4) sc.nd rfl (by first | exact Or.inl rfl | exact Or.inr rfl) (pe_sub' (pv' 0) (pe_C' pe_int fun _ => .int _))) (pss_cons' (ps_for' (passes_of rfl) rfl (pi_seq' (pv' 3)) (pg_name' (i := 5) sc.nd rfl (by first | exact Or.inl rfl | exact Or.inr rfl)) (pss_cons' (ps_if' (pt_ne' (u64 hr) (pe_mod' (pv' 4) (pv' 5)) (pe_C' pe_int fun _ => .int _)) (pss_one' (ps_ret' (pe_C' pe_bl fun _ => .bl _))) pss_nil') (pss_one' (ps_set' (i := 4) sc.nd rfl (by first | exact Or.inl rfl | exact Or.inr rfl) (pe_P C_without_divisor (passT tk) hr (by decide) hgd rfl (pa_cons' (pv' 4) (pa_cons' (pv' 5) pa_nil')) (aCons_len (aCons_len aNil_len)) rfl))))) (pss_cons' (ps_if' (PW.pt (pw_or' (pt_ne' (u64 hr) (pv' 4) (pe_C' pe_int fun _ => .int _)) (pw_or1' (pt_ne' (u64 hr) (pe_P C_power_of (passT tk) hr (by decide) hgd rfl (pa_cons' (pv' 2) (pa_cons' (pe_sub' (pv' 0) (pe_C' pe_int fun _ => .int _)) (pa_cons' (pv' 0) pa_nil'))) (aCons_len (aCons_len (aCons_len aNil_len))) rfl) (pe_mod' (pe_C' pe_int fun _ => .int _) (pv' 0)))))) (pss_one' (ps_ret' (pe_C' pe_bl fun _ => .bl _))) pss_nil') (pss_one' (ps_ret' (pe_all' rfl rfl b_all (pa_cons' (pe_lc' (own := [("one", 5)]) rfl sc.nd (pi_seq' (pv' 3)) (blkOk_by (N := N_prime_holds) (sc := defScope s_prime_holds) (own := [("one", 5)]) (by decide +kernel)) (nmTg (by decide)) (fun _ _ _ _ _ => (pg_name (i := 5) sc.nd rfl (by first | exact Or.inl rfl | exact Or.inr rfl))) (fun _ _ _ _ _ => pts_nil') (fun _ _ _ _ _ => (pe_ne' (u64 hr) (pe_P C_power_of pass0 hr (by decide) hgd rfl (pa_cons' (pv' 2) (pa_cons' (pe_fdv' (pe_sub' (pv' 0) (pe_C' pe_int fun _ => .int _)) (pv' 5)) (pa_cons' (pv' 0) pa_nil'))) (aCons_len (aCons_len (aCons_len aNil_len))) rfl) (pe_C' pe_int fun _ => .int _)))) pa_nil')))))))))))
abbrev s__law_box : Stmt := top 15
abbrev N__law_box : List Str := ["_law_script", "_law_k", "_law_cell", "_law_great"]
theorem sc__law_box : FnScope N__law_box ["_law_script", "_law_k"] (defScope s__law_box) := ⟨rfl, rfl, rfl, by decide +kernel, rfl, by decide +kernel, by decide +kernel⟩
theorem ok__law_box (F : FnP K "_law_box" s__law_box f fd) (gm : mg "_law_box" = some (.ref f)) (b_len : mg "len" = none) (b_abs : mg "abs" = none) (b_int : mg "int" = none) : CalD P w K mg base T "_law_box" s__law_box 1 ["_law_script", "_law_k"] f__law_box :=
  CalD.mk' F gm (fun _ _ _ _ _ _ us hl => match us, hl with | [_, _], _ => rfl) (fnG_of F sc__law_box rfl fun cdv A outer s H E hr hgd tk =>
    have sc := sc__law_box
    (pss_cons' (ps_set' (i := 2) sc.nd rfl (by first | exact Or.inl rfl | exact Or.inr rfl) (pe_add' (pe_mul' (pe_C' pe_int fun _ => .int _) (pv' 1)) (pe_C' pe_int fun _ => .int _))) (pss_cons' (ps_if' (pt_lt' (pv' 1) (pe_len' rfl b_len (pa_cons' (pv' 0) pa_nil'))) (pss_one' (ps_set' (i := 2) sc.nd rfl (by first | exact Or.inl rfl | exact Or.inr rfl) (pe_abs' rfl b_abs (pa_cons' (pe_int' rfl b_int (pa_cons' (pe_ix' (fun _ _ => rfl) (pv' 0) (pv' 1)) pa_nil')) pa_nil')))) (pss_one' (ps_if' (pt_gt' (pe_len' rfl b_len (pa_cons' (pv' 0) pa_nil')) (pe_C' pe_int fun _ => .int _)) (pss_one' (ps_set' (i := 2) sc.nd rfl (by first | exact Or.inl rfl | exact Or.inr rfl) (pe_add' (pv' 2) (pe_mul' (pe_mod' (pe_int' rfl b_int (pa_cons' (pe_abs' rfl b_abs (pa_cons' (pe_int' rfl b_int (pa_cons' (pe_ix' (fun _ _ => rfl) (pv' 0) (pe_mod' (pe_int' rfl b_int (pa_cons' (pv' 1) pa_nil')) (pe_len' rfl b_len (pa_cons' (pv' 0) pa_nil')))) pa_nil')) pa_nil')) pa_nil')) (pe_C' pe_int fun _ => .int _)) (pe_C' pe_int fun _ => .int _))))) pss_nil'))) (pss_cons' (ps_set' (i := 3) sc.nd rfl (by first | exact Or.inl rfl | exact Or.inr rfl) (pe_ifExp' (pt_ge' (pv' 2) (pe_pow' (pe_C' pe_int fun _ => .int _) (pe_C' pe_int fun _ => .int _))) (pv' 2) (pe_C' pe_int fun _ => .int _))) (pss_one' (ps_ret' (pe_newL (pa_cons' (pv' 3) (pa_cons' (pe_add' (pe_mod' (pe_int' rfl b_int (pa_cons' (pe_add' (pe_mul' (pe_mod' (pe_int' rfl b_int (pa_cons' (pv' 2) pa_nil')) (pe_C' pe_int fun _ => .int _)) (pe_C' pe_int fun _ => .int _)) (pe_mul' (pe_C' pe_int fun _ => .int _) (pv' 1))) pa_nil')) (pe_C' pe_int fun _ => .int _)) (pe_C' pe_int fun _ => .int _)) pa_nil')))))))))
abbrev s__law_take : Stmt := top 16
abbrev N__law_take : List Str := ["_law_box_here", "_law_many", "_law_digit", "_law_raw"]
theorem sc__law_take : FnScope N__law_take ["_law_box_here", "_law_many"] (defScope s__law_take) := ⟨rfl, rfl, rfl, by decide +kernel, rfl, by decide +kernel, by decide +kernel⟩
theorem ok__law_take (F : FnP K "_law_take" s__law_take f fd) (gm : mg "_law_take" = some (.ref f)) (b_int : mg "int" = none) : CalD P w K mg base T "_law_take" s__law_take 1 ["_law_box_here", "_law_many"] f__law_take :=
  CalD.mk' F gm (fun _ _ _ _ _ _ us hl => match us, hl with | [_, _], _ => rfl) (fnG_of F sc__law_take rfl fun cdv A outer s H E hr hgd tk =>
    have sc := sc__law_take
    (pss_cons' (ps_if' (pt_gt' (pe_ix' (fun _ _ => rfl) (pv' 0) (pe_C' pe_int fun _ => .int _)) (pe_C' pe_int fun _ => .int _)) (pss_cons' (ps_set' (i := 2) sc.nd rfl (by first | exact Or.inl rfl | exact Or.inr rfl) (pe_mod' (pe_int' rfl b_int (pa_cons' (pe_ix' (fun _ _ => rfl) (pv' 0) (pe_C' pe_int fun _ => .int _)) pa_nil')) (pv' 1))) (pss_cons' (ps_asg' (pe_fdv' (pe_ix' (fun _ _ => rfl) (pv' 0) (pe_C' pe_int fun _ => .int _)) (pv' 1)) (pg_sub' (fun _ _ ho hi => pg_sub ho hi set_list) (pv' 0) (pe_C' pe_int fun _ => .int _))) (pss_one' (ps_ret' (pv' 2))))) pss_nil') (pss_cons' (ps_set' (i := 3) sc.nd rfl (by first | exact Or.inl rfl | exact Or.inr rfl) (pe_mod' (pe_int' rfl b_int (pa_cons' (pe_add' (pe_mul' (pe_ix' (fun _ _ => rfl) (pv' 0) (pe_C' pe_int fun _ => .int _)) (pe_C' pe_int fun _ => .int _)) (pe_C' pe_int fun _ => .int _)) pa_nil')) (pe_C' pe_int fun _ => .int _))) (pss_cons' (ps_asg' (pe_add' (pe_mod' (pe_int' rfl b_int (pa_cons' (pe_add' (pe_mul' (pv' 3) (pe_C' pe_int fun _ => .int _)) (pe_C' pe_int fun _ => .int _)) pa_nil')) (pe_C' pe_int fun _ => .int _)) (pe_C' pe_int fun _ => .int _)) (pg_sub' (fun _ _ ho hi => pg_sub ho hi set_list) (pv' 0) (pe_C' pe_int fun _ => .int _))) (pss_one' (ps_ret' (pe_mod' (pe_int' rfl b_int (pa_cons' (pe_fdv' (pe_add' (pe_mul' (pv' 3) (pe_C' pe_int fun _ => .int _)) (pe_ix' (fun _ _ => rfl) (pv' 0) (pe_C' pe_int fun _ => .int _))) (pe_C' pe_int fun _ => .int _)) pa_nil')) (pv' 1))))))))
abbrev s__law_pick : Stmt := top 17
abbrev N__law_pick : List Str := ["_law_box_here", "_law_some"]
theorem sc__law_pick : FnScope N__law_pick ["_law_box_here", "_law_some"] (defScope s__law_pick) := ⟨rfl, rfl, rfl, by decide +kernel, rfl, by decide +kernel, by decide +kernel⟩
theorem ok__law_pick (F : FnP K "_law_pick" s__law_pick f fd) (gm : mg "_law_pick" = some (.ref f)) (b_len : mg "len" = none) (C__law_take : CalD P w K mg base T "_law_take" s__law_take 1 ["_law_box_here", "_law_many"] f__law_take) : CalD P w K mg base T "_law_pick" s__law_pick 2 ["_law_box_here", "_law_some"] f__law_pick :=
  CalD.mk' F gm (fun _ _ _ _ _ _ us hl => match us, hl with | [_, _], _ => rfl) (fnG_of F sc__law_pick rfl fun cdv A outer s H E hr hgd tk =>
    have sc := sc__law_pick
    (pss_one' (ps_ret' (pe_ix' (fun _ _ => rfl) (pv' 1) (pe_M C__law_take (passT tk) hr (by decide) hgd rfl (pa_cons' (pv' 0) (pa_cons' (pe_len' rfl b_len (pa_cons' (pv' 1) pa_nil')) pa_nil')) (aCons_len (aCons_len aNil_len)) rfl)))))
abbrev s__law_octets : Stmt := top 18
abbrev N__law_octets : List Str := ["_law_box_here", "_law_most", "_law_letters", "_law_found", "_law_turn"]
theorem sc__law_octets : FnScope N__law_octets ["_law_box_here", "_law_most", "_law_letters"] (defScope s__law_octets) := ⟨rfl, rfl, rfl, by decide +kernel, rfl, by decide +kernel, by decide +kernel⟩
theorem ok__law_octets (F : FnP K "_law_octets" s__law_octets f fd) (gm : mg "_law_octets" = some (.ref f)) (b_range : mg "range" = none) (b_tuple : mg "tuple" = none) (C__law_take : CalD P w K mg base T "_law_take" s__law_take 1 ["_law_box_here", "_law_many"] f__law_take) : CalD P w K mg base T "_law_octets" s__law_octets 2 ["_law_box_here", "_law_most", "_law_letters"] f__law_octets :=
  CalD.mk' F gm (fun _ _ _ _ _ _ us hl => match us, hl with | [_, _, _], _ => rfl) (fnG_of F sc__law_octets rfl fun cdv A outer s H E hr hgd tk =>
    have sc := sc__law_octets
    (pss_cons' (ps_set' (i := 3) sc.nd rfl (by first | exact Or.inl rfl | exact Or.inr rfl) (pe_newL pa_nil')) (pss_cons' (ps_for' (passes_of rfl) rfl (pi_range1' rfl b_range (pa_cons' (pe_M C__law_take (passT tk) hr (by decide) hgd rfl (pa_cons' (pv' 0) (pa_cons' (pe_add' (pv' 1) (pe_C' pe_int fun _ => .int _)) pa_nil')) (aCons_len (aCons_len aNil_len)) rfl) pa_nil')) (pg_name' (i := 4) sc.nd rfl (by first | exact Or.inl rfl | exact Or.inr rfl)) (pss_one' (ps_expr' (pe_append' (pv' 3) (pa_cons' (pe_ifExp' (pt_gt' (pe_M C__law_take (passT tk) hr (by decide) hgd rfl (pa_cons' (pv' 0) (pa_cons' (pe_C' pe_int fun _ => .int _) pa_nil')) (aCons_len (aCons_len aNil_len)) rfl) (pe_C' pe_int fun _ => .int _)) (pe_M C__law_take (passT tk) hr (by decide) hgd rfl (pa_cons' (pv' 0) (pa_cons' (pv' 2) pa_nil')) (aCons_len (aCons_len aNil_len)) rfl) (pe_M C__law_take (passT tk) hr (by decide) hgd rfl (pa_cons' (pv' 0) (pa_cons' (pe_C' pe_int fun _ => .int _) pa_nil')) (aCons_len (aCons_len aNil_len)) rfl)) pa_nil'))))) (pss_one' (ps_ret' (pe_tuple' rfl b_tuple (pa_cons' (pv' 3) pa_nil')))))))
abbrev s__law_is_prime : Stmt := top 19
abbrev N__law_is_prime : List Str := ["_law_number", "_law_one"]
theorem sc__law_is_prime : FnScope N__law_is_prime ["_law_number"] (defScope s__law_is_prime) := ⟨rfl, rfl, rfl, by decide +kernel, rfl, by decide +kernel, by decide +kernel⟩
theorem ok__law_is_prime (F : FnP K "_law_is_prime" s__law_is_prime f fd) (gm : mg "_law_is_prime" = some (.ref f)) (b_range : mg "range" = none) (b_int : mg "int" = none) : CalD P w K mg base T "_law_is_prime" s__law_is_prime 1 ["_law_number"] f__law_is_prime :=
  CalD.mk' F gm (fun _ _ _ _ _ _ us hl => match us, hl with | [_], _ => rfl) (fnG_of F sc__law_is_prime rfl fun cdv A outer s H E hr hgd tk =>
    have sc := sc__law_is_prime
    (pss_one' (ps_ret' (pe_and' (pe_gt' (pv' 0) (pe_C' pe_int fun _ => .int _)) (pe_and1' (pe_eq' (u64 hr) (pe_lc' (own := [("_law_one", 1)]) rfl sc.nd (pi_range2' rfl b_range (pa_cons' (pe_C' pe_int fun _ => .int _) (pa_cons' (pv' 0) pa_nil'))) (blkOk_by (N := N__law_is_prime) (sc := defScope s__law_is_prime) (own := [("_law_one", 1)]) (by decide +kernel)) (nmTg (by decide)) (fun _ _ _ _ _ => (pg_name (i := 1) sc.nd rfl (by first | exact Or.inl rfl | exact Or.inr rfl))) (fun _ _ _ _ _ => (pts_one' (PW.pt (pw_and' (pt_le' (pe_mul' (pv' 1) (pv' 1)) (pv' 0)) (pw_and1' (pt_eq' (u64 hr) (pe_mod' (pe_int' rfl b_int (pa_cons' (pv' 0) pa_nil')) (pv' 1)) (pe_C' pe_int fun _ => .int _))))))) (fun _ _ _ _ _ => (pv' 1))) (pe_lst' pa_nil')))))))
abbrev s__law_divisors : Stmt := top 20
abbrev N__law_divisors : List Str := ["_law_number", "_law_one"]
theorem sc__law_divisors : FnScope N__law_divisors ["_law_number"] (defScope s__law_divisors) := ⟨rfl, rfl, rfl, by decide +kernel, rfl, by decide +kernel, by decide +kernel⟩
theorem ok__law_divisors (F : FnP K "_law_divisors" s__law_divisors f fd) (gm : mg "_law_divisors" = some (.ref f)) (b_range : mg "range" = none) (b_int : mg "int" = none) (C__law_is_prime : CalD P w K mg base T "_law_is_prime" s__law_is_prime 1 ["_law_number"] f__law_is_prime) : CalD P w K mg base T "_law_divisors" s__law_divisors 2 ["_law_number"] f__law_divisors :=
  CalD.mk' F gm (fun _ _ _ _ _ _ us hl => match us, hl with | [_], _ => rfl) (fnG_of F sc__law_divisors rfl fun cdv A outer s H E hr hgd tk =>
    have sc := sc__law_divisors
    (pss_one' (ps_ret' (pe_lc' (own := [("_law_one", 1)]) rfl sc.nd (pi_range2' rfl b_range (pa_cons' (pe_C' pe_int fun _ => .int _) (pa_cons' (pe_add' (pv' 0) (pe_C' pe_int fun _ => .int _)) pa_nil'))) (blkOk_by (N := N__law_divisors) (sc := defScope s__law_divisors) (own := [("_law_one", 1)]) (by decide +kernel)) (nmTg (by decide)) (fun _ _ _ _ _ => (pg_name (i := 1) sc.nd rfl (by first | exact Or.inl rfl | exact Or.inr rfl))) (fun _ _ _ _ _ => (pts_one' (PW.pt (pw_and' (pt_eq' (u64 hr) (pe_mod' (pe_int' rfl b_int (pa_cons' (pv' 0) pa_nil')) (pv' 1)) (pe_C' pe_int fun _ => .int _)) (pw_and1' (pt_tru' (pe_P C__law_is_prime pass0 hr (by decide) hgd rfl (pa_cons' (pv' 1) pa_nil') (aCons_len aNil_len) rfl))))))) (fun _ _ _ _ _ => (pv' 1))))))
abbrev s__law_powers : Stmt := top 21
abbrev N__law_powers : List Str := ["_law_root", "_law_number", "_law_here", "_law_many"]
theorem sc__law_powers : FnScope N__law_powers ["_law_root", "_law_number"] (defScope s__law_powers) := ⟨rfl, rfl, rfl, by decide +kernel, rfl, by decide +kernel, by decide +kernel⟩
theorem ok__law_powers (F : FnP K "_law_powers" s__law_powers f fd) (gm : mg "_law_powers" = some (.ref f)) (b_int : mg "int" = none) (b_range : mg "range" = none) : CalD P w K mg base T "_law_powers" s__law_powers 1 ["_law_root", "_law_number"] f__law_powers :=
  CalD.mk' F gm (fun _ _ _ _ _ _ us hl => match us, hl with | [_, _], _ => rfl) (fnG_of F sc__law_powers rfl fun cdv A outer s H E hr hgd tk =>
    have sc := sc__law_powers
    (pss_cons' (ps_set' (i := 2) sc.nd rfl (by first | exact Or.inl rfl | exact Or.inr rfl) (pe_mod' (pe_int' rfl b_int (pa_cons' (pv' 0) pa_nil')) (pv' 1))) (pss_cons' (ps_for' (passes_of rfl) rfl (pi_range2' rfl b_range (pa_cons' (pe_C' pe_int fun _ => .int _) (pa_cons' (pv' 1) pa_nil'))) (pg_name' (i := 3) sc.nd rfl (by first | exact Or.inl rfl | exact Or.inr rfl)) (pss_cons' (ps_if' (pt_eq' (u64 hr) (pv' 2) (pe_mod' (pe_int' rfl b_int (pa_cons' (pe_C' pe_int fun _ => .int _) pa_nil')) (pv' 1))) (pss_one' (ps_ret' (pv' 3))) pss_nil') (pss_one' (ps_set' (i := 2) sc.nd rfl (by first | exact Or.inl rfl | exact Or.inr rfl) (pe_mod' (pe_int' rfl b_int (pa_cons' (pe_mul' (pv' 2) (pv' 0)) pa_nil')) (pv' 1)))))) (pss_one' (ps_ret' (pe_C' pe_int fun _ => .int _))))))
abbrev s_law : Stmt := top 22
abbrev N_law : List Str := ["_law_script", "_law_k", "_law_box_here", "_law_number", "_law_primes", "_law_prime", "_law_some", "_law_turn", "_law_root", "_law_due", "_law_value", "_law_less", "_law_more", "_law_odd", "_law_paper", "_law_product", "_law_here", "_law_one"]
theorem sc_law : FnScope N_law ["_law_script"] (defScope s_law) := ⟨rfl, rfl, rfl, by decide +kernel, rfl, by decide +kernel, by decide +kernel⟩
theorem okG_law (F : FnP K "law" s_law f fd) (b_range : mg "range" = none) (b_list : mg "list" = none) (b_tuple : mg "tuple" = none) (b_repr : mg "repr" = none) (b_len : mg "len" = none) (b_isinstance : mg "isinstance" = none) (b_int : mg "int" = none) (c_PRIME : GlD K mg "PRIME" d_PRIME) (C__law_box : CalD P w K mg base T "_law_box" s__law_box 1 ["_law_script", "_law_k"] f__law_box) (C__law_take : CalD P w K mg base T "_law_take" s__law_take 1 ["_law_box_here", "_law_many"] f__law_take) (C__law_pick : CalD P w K mg base T "_law_pick" s__law_pick 2 ["_law_box_here", "_law_some"] f__law_pick) (C__law_divisors : CalD P w K mg base T "_law_divisors" s__law_divisors 2 ["_law_number"] f__law_divisors) (C__law_is_prime : CalD P w K mg base T "_law_is_prime" s__law_is_prime 1 ["_law_number"] f__law_is_prime) (C__law_powers : CalD P w K mg base T "_law_powers" s__law_powers 1 ["_law_root", "_law_number"] f__law_powers) (C_prime_holds : CalD P w K mg base T "prime_holds" s_prime_holds 5 ["number", "value"] f_prime_holds) (C_prime_paper : CalD P w K mg base T "prime_paper" s_prime_paper 1 [] f_prime_paper) : FnG P w K mg base 6 f fd ["_law_script"] (spM K mg T 1 f_law) :=
  fnG_of F sc_law rfl fun cdv A outer s H E hr hgd tk =>
    have sc := sc_law
    (pss_cons' (ps_for' (passes_of rfl) rfl (pi_range1' rfl b_range (pa_cons' (pe_C' pe_int fun _ => .int _) pa_nil')) (pg_name' (i := 1) sc.nd rfl (by first | exact Or.inl rfl | exact Or.inr rfl)) (pss_cons' (ps_set' (i := 2) sc.nd rfl (by first | exact Or.inl rfl | exact Or.inr rfl) (pe_M C__law_box (passT tk) hr (by decide) hgd rfl (pa_cons' (pv' 0) (pa_cons' (pv' 1) pa_nil')) (aCons_len (aCons_len aNil_len)) rfl)) (pss_cons' (ps_set' (i := 3) sc.nd rfl (by first | exact Or.inl rfl | exact Or.inr rfl) (pe_add' (pe_C' pe_int fun _ => .int _) (pe_M C__law_take (passT tk) hr (by decide) hgd rfl (pa_cons' (pv' 2) (pa_cons' (pe_M C__law_pick (passT tk) hr (by decide) hgd rfl (pa_cons' (pv' 2) (pa_cons' (pe_lst' (pa_cons' (pe_C' pe_int fun _ => .int _) (pa_cons' (pe_C' pe_int fun _ => .int _) (pa_cons' (pe_C' pe_int fun _ => .int _) pa_nil')))) pa_nil')) (aCons_len (aCons_len aNil_len)) rfl) pa_nil')) (aCons_len (aCons_len aNil_len)) rfl))) (pss_cons' (ps_asg' (pe_tup' (pa_cons' (pe_ifExp' (pt_gt' (pv' 3) (pe_C' pe_int fun _ => .int _)) (pe_P C__law_divisors (passT tk) hr (by decide) hgd rfl (pa_cons' (pe_sub' (pv' 3) (pe_C' pe_int fun _ => .int _)) pa_nil') (aCons_len aNil_len) rfl) (pe_lst' pa_nil')) (pa_cons' (pe_P C__law_is_prime (passT tk) hr (by decide) hgd rfl (pa_cons' (pv' 3) pa_nil') (aCons_len aNil_len) rfl) pa_nil'))) (pg_seq' (n := 2) rfl (pgs_cons' (pg_name' (i := 4) sc.nd rfl (by first | exact Or.inl rfl | exact Or.inr rfl)) (pgs_cons' (pg_name' (i := 5) sc.nd rfl (by first | exact Or.inl rfl | exact Or.inr rfl)) pgs_nil')))) (pss_cons' (ps_setLc' (i := 6) (own := [("_law_root", 8)]) rfl sc.nd rfl rfl (sw_true rfl rfl rfl (by decide +kernel)) (pi_range2' rfl b_range (pa_cons' (pe_C' pe_int fun _ => .int _) (pa_cons' (pv' 3) pa_nil'))) (blkOk_by (N := N_law) (sc := defScope s_law) (own := [("_law_root", 8)]) (by decide +kernel)) (nmTg (by decide)) (fun _ _ _ _ _ => (pg_name (i := 8) sc.nd rfl (by first | exact Or.inl rfl | exact Or.inr rfl))) (fun _ _ _ _ _ => (pts_one' (pt_eq' (u64 hr) (pe_P C__law_powers pass0 hr (by decide) hgd rfl (pa_cons' (pv' 8) (pa_cons' (pv' 3) pa_nil')) (aCons_len (aCons_len aNil_len)) rfl) (pe_sub' (pv' 3) (pe_C' pe_int fun _ => .int _))))) (fun _ _ _ _ _ => (pv' 8))) (pss_cons' (ps_if' (pt_ne' (u64 hr) (pe_ne' (u64 hr) (pv' 6) (pe_lst' pa_nil')) (pv' 5)) (pss_one' (ps_ret' (pe_C' pe_bl fun _ => .bl _))) pss_nil') (pss_cons' (ps_for' (passes_of rfl) rfl (pi_range1' rfl b_range (pa_cons' (pe_C' pe_int fun _ => .int _) pa_nil')) (pg_name' (i := 7) sc.nd rfl (by first | exact Or.inl rfl | exact Or.inr rfl)) (pss_cons' (ps_set' (i := 8) sc.nd rfl (by first | exact Or.inl rfl | exact Or.inr rfl) (pe_ifExp' (PW.pt (pw_and' (pt_ne' (u64 hr) (pv' 6) (pe_lst' pa_nil')) (pw_and1' (pt_eq' (u64 hr) (pe_M C__law_take (passT tk) hr (by decide) hgd rfl (pa_cons' (pv' 2) (pa_cons' (pe_C' pe_int fun _ => .int _) pa_nil')) (aCons_len (aCons_len aNil_len)) rfl) (pe_C' pe_int fun _ => .int _))))) (pe_M C__law_pick (passT tk) hr (by decide) hgd rfl (pa_cons' (pv' 2) (pa_cons' (pv' 6) pa_nil')) (aCons_len (aCons_len aNil_len)) rfl) (pe_add' (pe_C' pe_int fun _ => .int _) (pe_M C__law_take (passT tk) hr (by decide) hgd rfl (pa_cons' (pv' 2) (pa_cons' (pe_sub' (pv' 3) (pe_C' pe_int fun _ => .int _)) pa_nil')) (aCons_len (aCons_len aNil_len)) rfl)))) (pss_cons' (ps_set' (i := 9) sc.nd rfl (by first | exact Or.inl rfl | exact Or.inr rfl) (pe_eq' (u64 hr) (pe_P C__law_powers (passT tk) hr (by decide) hgd rfl (pa_cons' (pv' 8) (pa_cons' (pv' 3) pa_nil')) (aCons_len (aCons_len aNil_len)) rfl) (pe_sub' (pv' 3) (pe_C' pe_int fun _ => .int _)))) (pss_cons' (ps_set' (i := 10) sc.nd rfl (by first | exact Or.inl rfl | exact Or.inr rfl) (pe_ifExp' (pt_eq' (u64 hr) (pe_M C__law_take (passT tk) hr (by decide) hgd rfl (pa_cons' (pv' 2) (pa_cons' (pe_C' pe_int fun _ => .int _) pa_nil')) (aCons_len (aCons_len aNil_len)) rfl) (pe_C' pe_int fun _ => .int _)) (pe_lst' (pa_cons' (pv' 8) (pa_cons' (pe_list' rfl b_list (pa_cons' (pe_revL' (pv' 4)) pa_nil')) pa_nil'))) (pe_tup' (pa_cons' (pv' 8) (pa_cons' (pe_tuple' rfl b_tuple (pa_cons' (pv' 4) pa_nil')) pa_nil'))))) (pss_cons' (ps_if' (pt_ne' (u64 hr) (pe_repr' hgd (u200 hr) rfl b_repr (pa_cons' (pe_lst' (pa_cons' (pe_P C_prime_holds (passT tk) hr (by decide) hgd rfl (pa_cons' (pv' 3) (pa_cons' (pv' 10) pa_nil')) (aCons_len (aCons_len aNil_len)) rfl) (pa_cons' (pe_K0 (ks := ["value", "number"]) (idx := [1, 0]) (b := 2) C_prime_holds (fun _ _ _ _ _ _ us ws h1 h2 => match us, ws, h1, h2 with | [], [_, _], _, _ => rfl) (fun ds h => match ds, h with | [_, _], _ => rfl) (passT tk) hr (by decide) hgd rfl (pk_cons' (pv' 10) (pk_cons' (pv' 3) pk_nil')) (aCons_len (aCons_len aNil_len))) pa_nil'))) pa_nil')) (pe_repr' hgd (u200 hr) rfl b_repr (pa_cons' (pe_lst' (pa_cons' (pv' 9) (pa_cons' (pv' 9) pa_nil'))) pa_nil'))) (pss_one' (ps_ret' (pe_C' pe_bl fun _ => .bl _))) pss_nil') (pss_cons' (ps_if' (pt_ne' (u64 hr) (pv' 4) (pe_lst' pa_nil')) (pss_cons' (ps_set' (i := 11) sc.nd rfl (by first | exact Or.inl rfl | exact Or.inr rfl) (pe_newSl (pv' 4) po_none' po_none')) (pss_cons' (ps_expr' (pe_pop1' (pv' 11) (pa_cons' (pe_M C__law_take (passT tk) hr (by decide) hgd rfl (pa_cons' (pv' 2) (pa_cons' (pe_len' rfl b_len (pa_cons' (pv' 11) pa_nil')) pa_nil')) (aCons_len (aCons_len aNil_len)) rfl) pa_nil'))) (pss_one' (ps_if' (pt_isNot' (pe_P C_prime_holds (passT tk) hr (by decide) hgd rfl (pa_cons' (pv' 3) (pa_cons' (pe_tup' (pa_cons' (pv' 8) (pa_cons' (pv' 11) pa_nil'))) pa_nil')) (aCons_len (aCons_len aNil_len)) rfl) (pe_C' pe_bl fun _ => .bl _)) (pss_one' (ps_ret' (pe_C' pe_bl fun _ => .bl _))) pss_nil')))) pss_nil') (pss_cons' (ps_set' (i := 12) sc.nd rfl (by first | exact Or.inl rfl | exact Or.inr rfl) (pe_M C__law_pick (passT tk) hr (by decide) hgd rfl (pa_cons' (pv' 2) (pa_cons' (pe_lc' (own := [("_law_one", 17)]) rfl sc.nd (pi_seq' (pe_lst' (pa_cons' (pe_C' pe_int fun _ => .int _) (pa_cons' (pe_C' pe_int fun _ => .int _) (pa_cons' (pe_C' pe_int fun _ => .int _) (pa_cons' (pe_C' pe_int fun _ => .int _) (pa_cons' (pe_C' pe_int fun _ => .int _) (pa_cons' (pe_C' pe_int fun _ => .int _) (pa_cons' (pe_C' pe_int fun _ => .int _) (pa_cons' (pe_C' pe_int fun _ => .int _) (pa_cons' (pe_C' pe_int fun _ => .int _) (pa_cons' (pe_C' pe_int fun _ => .int _) (pa_cons' (pe_C' pe_non fun _ => .non) pa_nil'))))))))))))) (blkOk_by (N := N_law) (sc := defScope s_law) (own := [("_law_one", 17)]) (by decide +kernel)) (nmTg (by decide)) (fun _ _ _ _ _ => (pg_name (i := 17) sc.nd rfl (by first | exact Or.inl rfl | exact Or.inr rfl))) (fun _ _ _ _ _ => (pts_one' (pt_nin' (u65 hr) (by with_unfolding_all rfl) (pv' 17) (pv' 4)))) (fun _ _ _ _ _ => (pv' 17))) pa_nil')) (aCons_len (aCons_len aNil_len)) rfl)) (pss_one' (ps_if' (pt_isNot' (pe_P C_prime_holds (passT tk) hr (by decide) hgd rfl (pa_cons' (pv' 3) (pa_cons' (pe_tup' (pa_cons' (pv' 8) (pa_cons' (pe_add' (pv' 4) (pe_lst' (pa_cons' (pv' 12) pa_nil'))) pa_nil'))) pa_nil')) (aCons_len (aCons_len aNil_len)) rfl) (pe_C' pe_bl fun _ => .bl _)) (pss_one' (ps_ret' (pe_C' pe_bl fun _ => .bl _))) pss_nil'))))))))) (pss_cons' (ps_set' (i := 13) sc.nd rfl (by first | exact Or.inl rfl | exact Or.inr rfl) (pe_M C__law_pick (passT tk) hr (by decide) hgd rfl (pa_cons' (pv' 2) (pa_cons' (pe_lst' (pa_cons' (pe_C' pe_non fun _ => .non) (pa_cons' (pe_tup' pa_nil') (pa_cons' (pe_tup' (pa_cons' (pe_C' pe_int fun _ => .int _) pa_nil')) (pa_cons' (pe_tup' (pa_cons' (pv' 3) (pa_cons' (pv' 4) pa_nil'))) (pa_cons' (pe_tup' (pa_cons' (pe_C' pe_int fun _ => .int _) (pa_cons' (pv' 4) pa_nil'))) (pa_cons' (pe_tup' (pa_cons' (pe_C' pe_bl fun _ => .bl _) (pa_cons' (pv' 4) pa_nil'))) (pa_cons' (pe_tup' (pa_cons' (pe_C' pe_int fun _ => .int _) (pa_cons' (pe_C' pe_non fun _ => .non) pa_nil'))) (pa_cons' (pe_C' pe_str fun _ => .str _) (pa_cons' (pe_C' pe_int fun _ => .int _) (pa_cons' (pe_tup' (pa_cons' (pe_C' pe_int fun _ => .int _) (pa_cons' (pv' 4) (pa_cons' (pe_C' pe_int fun _ => .int _) pa_nil')))) pa_nil'))))))))))) pa_nil')) (aCons_len (aCons_len aNil_len)) rfl)) (pss_one' (ps_if' (pt_isNot' (pe_P C_prime_holds (passT tk) hr (by decide) hgd rfl (pa_cons' (pv' 3) (pa_cons' (pv' 13) pa_nil')) (aCons_len (aCons_len aNil_len)) rfl) (pe_C' pe_bl fun _ => .bl _)) (pss_one' (ps_ret' (pe_C' pe_bl fun _ => .bl _))) pss_nil')))))))))) (pss_cons' (ps_set' (i := 14) sc.nd rfl (by first | exact Or.inl rfl | exact Or.inr rfl) (pe_P0 C_prime_paper (passT tk) hr (by decide) hgd rfl)) (pss_cons' (ps_if' (PW.pt (pw_or' (pt_not' (pt_tru' (pe_isi1 (n := "tuple") (by decide) rfl b_isinstance (pe_bltn rfl b_tuple (by decide +kernel) rfl) (pv' 14)))) (pw_or' (pt_not' (pt_tru' (pe_isi1 (n := "tuple") (by decide) rfl b_isinstance (pe_bltn rfl b_tuple (by decide +kernel) rfl) (pe_ix' (fun _ _ => rfl) (pv' 14) (pe_C' pe_int fun _ => .int _))))) (pw_or1' (pt_isNot' (pe_P C_prime_holds (passT tk) hr (by decide) hgd rfl (pa_cons' (pe_gD rfl c_PRIME) (pa_cons' (pv' 14) pa_nil')) (aCons_len (aCons_len aNil_len)) rfl) (pe_C' pe_bl fun _ => .bl _)))))) (pss_one' (ps_ret' (pe_C' pe_bl fun _ => .bl _))) pss_nil') (pss_cons' (ps_par' (i := 15) (j := 16) rfl sc.nd rfl rfl (by decide) rfl rfl (pa_cons' (pe_C' pe_int fun _ => .int _) (pa_cons' (pe_sub' (pe_gD rfl c_PRIME) (pe_C' pe_int fun _ => .int _)) pa_nil')) (by with_unfolding_all rfl)) (pss_cons' (ps_for' (passes_of rfl) rfl (pi_seq' (pe_ix' (fun _ _ => rfl) (pv' 14) (pe_C' pe_int fun _ => .int _))) (pg_name' (i := 17) sc.nd rfl (by first | exact Or.inl rfl | exact Or.inr rfl)) (pss_cons' (ps_if' (pt_not' (pt_tru' (pe_P C__law_is_prime (passT tk) hr (by decide) hgd rfl (pa_cons' (pv' 17) pa_nil') (aCons_len aNil_len) rfl))) (pss_one' (ps_ret' (pe_C' pe_bl fun _ => .bl _))) pss_nil') (pss_one' (ps_for' (passes_of rfl) rfl (pi_range1' rfl b_range (pa_cons' (pe_C' pe_int fun _ => .int _) pa_nil')) (pg_name' (i := 7) sc.nd rfl (by first | exact Or.inl rfl | exact Or.inr rfl)) (pss_one' (ps_if' (pt_eq' (u64 hr) (pe_mod' (pe_int' rfl b_int (pa_cons' (pv' 16) pa_nil')) (pv' 17)) (pe_C' pe_int fun _ => .int _)) (pss_one' (ps_par' (i := 16) (j := 15) rfl sc.nd rfl rfl (by decide) rfl rfl (pa_cons' (pe_fdv' (pv' 16) (pv' 17)) (pa_cons' (pe_mul' (pv' 15) (pv' 17)) pa_nil')) (by with_unfolding_all rfl))) pss_nil')))))) (pss_one' (ps_ret' (pe_and' (pe_eq' (u64 hr) (pv' 16) (pe_C' pe_int fun _ => .int _)) (pe_and1' (pe_is' (pe_P C_prime_holds (passT tk) hr (by decide) hgd rfl (pa_cons' (pe_add' (pe_gD rfl c_PRIME) (pe_C' pe_int fun _ => .int _)) (pa_cons' (pv' 14) pa_nil')) (aCons_len (aCons_len aNil_len)) rfl) (pe_C' pe_bl fun _ => .bl _)))))))))))
end
end K33

set_option Elab.async false
set_option linter.all false
set_option maxRecDepth 100000
set_option maxHeartbeats 0
namespace K33
open PySem PySem.Spec PyProof.Rows L2 Kw
def dd_is_integer : He.DefD := ⟨("is_integer", none), "is_integer", "is_integer", defArgs s_is_integer, defBody s_is_integer, defScope s_is_integer, [], []⟩
def dd_is_number : He.DefD := ⟨("is_number", none), "is_number", "is_number", defArgs s_is_number, defBody s_is_number, defScope s_is_number, [], []⟩
def dd_is_below : He.DefD := ⟨("is_below", none), "is_below", "is_below", defArgs s_is_below, defBody s_is_below, defScope s_is_below, [], []⟩
def dd_is_sequence : He.DefD := ⟨("is_sequence", none), "is_sequence", "is_sequence", defArgs s_is_sequence, defBody s_is_sequence, defScope s_is_sequence, [], []⟩
def dd_power_of : He.DefD := ⟨("power_of", none), "power_of", "power_of", defArgs s_power_of, defBody s_power_of, defScope s_power_of, [], []⟩
def dd_is_plain_prime : He.DefD := ⟨("is_plain_prime", none), "is_plain_prime", "is_plain_prime", defArgs s_is_plain_prime, defBody s_is_plain_prime, defScope s_is_plain_prime, [], []⟩
def dd_prime_paper : He.DefD := ⟨("prime_paper", none), "prime_paper", "prime_paper", defArgs s_prime_paper, defBody s_prime_paper, defScope s_prime_paper, [], []⟩
def dd_without_divisor : He.DefD := ⟨("without_divisor", none), "without_divisor", "without_divisor", defArgs s_without_divisor, defBody s_without_divisor, defScope s_without_divisor, [], []⟩
def dd_prime_holds : He.DefD := ⟨("prime_holds", none), "prime_holds", "prime_holds", defArgs s_prime_holds, defBody s_prime_holds, defScope s_prime_holds, [], []⟩
def dd__law_box : He.DefD := ⟨("_law_box", none), "_law_box", "_law_box", defArgs s__law_box, defBody s__law_box, defScope s__law_box, [], []⟩
def dd__law_take : He.DefD := ⟨("_law_take", none), "_law_take", "_law_take", defArgs s__law_take, defBody s__law_take, defScope s__law_take, [], []⟩
def dd__law_pick : He.DefD := ⟨("_law_pick", none), "_law_pick", "_law_pick", defArgs s__law_pick, defBody s__law_pick, defScope s__law_pick, [], []⟩
def dd__law_octets : He.DefD := ⟨("_law_octets", none), "_law_octets", "_law_octets", defArgs s__law_octets, defBody s__law_octets, defScope s__law_octets, [], []⟩
def dd__law_is_prime : He.DefD := ⟨("_law_is_prime", none), "_law_is_prime", "_law_is_prime", defArgs s__law_is_prime, defBody s__law_is_prime, defScope s__law_is_prime, [], []⟩
def dd__law_divisors : He.DefD := ⟨("_law_divisors", none), "_law_divisors", "_law_divisors", defArgs s__law_divisors, defBody s__law_divisors, defScope s__law_divisors, [], []⟩
def dd__law_powers : He.DefD := ⟨("_law_powers", none), "_law_powers", "_law_powers", defArgs s__law_powers, defBody s__law_powers, defScope s__law_powers, [], []⟩
def dd_law : He.DefD := ⟨("law", none), "law", "law", defArgs s_law, defBody s_law, defScope s_law, [], []⟩
def fn : List He.DefD := [dd_is_integer, dd_is_number, dd_is_below, dd_is_sequence, dd_power_of, dd_is_plain_prime, dd_prime_paper, dd_without_divisor, dd_prime_holds, dd__law_box, dd__law_take, dd__law_pick, dd__law_octets, dd__law_is_prime, dd__law_divisors, dd__law_powers, dd_law]
def fa : List He.Fa := [.glo "is_integer", .glo "is_number", .glo "is_below", .glo "is_sequence", .glo "power_of", .glo "is_plain_prime", .glo "prime_paper", .glo "without_divisor", .glo "prime_holds", .glo "_law_box", .glo "_law_take", .glo "_law_pick", .glo "_law_octets", .glo "_law_is_prime", .glo "_law_divisors", .glo "_law_powers", .glo "law", .free "isinstance", .free "int", .free "bool", .free "tuple", .free "list", .free "all", .free "range", .free "len", .free "abs", .free "repr", .int "ROOT" 37, .int "PRIME" 2305843009213693951]
abbrev R : PySem.W.OpenRow := PySem.W.OpenLaw.row PySem.Challenge.rw_keptwhole_k33_powers_that_show_a_prime
def ex (K : PySem.W.Frag) : Bool := (He.eqO (PySem.W.nsIn K mainGlobals "DIVISORS") (some (some (.ref (He.ga K "DIVISORS")))) && He.tupB K "DIVISORS" [.int 2, .int 3, .int 5, .int 7, .int 11, .int 13, .int 31, .int 41, .int 61, .int 151, .int 331, .int 1321])
abbrev hk : PySem.W.Hook := He.hookX 4 fa fn [] [] ex
def ob (s : PySem.W.SharedT) : He.AlX := He.obsX 4 fa fn [] [] ex (HandSHeadRun.getT s)
theorem ob_eq (s : PySem.W.SharedT) : ob s = hk.obs s.abs := He.obsX_eq (HandSHeadRun.getT_eq s)
def loose : List Str := (["is_integer", "is_number", "is_below", "is_sequence", "PRIME", "ROOT", "DIVISORS", "power_of", "is_plain_prime", "prime_paper", "without_divisor", "prime_holds", "_law_box", "_law_take", "_law_pick", "_law_octets", "_law_is_prime", "_law_divisors", "_law_powers"] : List Str)
theorem run (w : World) : HandSHeadRun.RunEq R (PySem.W.view R.prog [22]) hk ob 2000 loose w := by
  intro os
  kernel_rfl
theorem facts {P : Program} {w : World} {K : PySem.W.Frag} {h : Heap} {mg : Str → Option Value} {f : Addr} {T : List (Addr × Str)} (X : K.In h) (G : h.Ns mainGlobals mg) (hfa : mg ("law" : Str) = some (.ref f)) (c : He.SaysX fa fn [] [] ex w h K) :
    ∃ fd : FuncData, (∀ (s : Shared) (v : Value), BindsTo s fd ⟨[v], []⟩ [("_law_script", v)]) ∧ ∀ base : Heap, K.In base → base.Ns mainGlobals mg → FnG P w K mg base 6 f fd ["_law_script"] (spM K mg T 1 f_law) := by
  obtain ⟨fd_is_integer, F_is_integer⟩ := c.t.d.def_ 0 (d := dd_is_integer) rfl
  have g_is_integer := He.glo_ok X G (c.t.d.fact 0 (f := .glo "is_integer") rfl)
  obtain ⟨fd_is_number, F_is_number⟩ := c.t.d.def_ 1 (d := dd_is_number) rfl
  have g_is_number := He.glo_ok X G (c.t.d.fact 1 (f := .glo "is_number") rfl)
  obtain ⟨fd_is_below, F_is_below⟩ := c.t.d.def_ 2 (d := dd_is_below) rfl
  have g_is_below := He.glo_ok X G (c.t.d.fact 2 (f := .glo "is_below") rfl)
  obtain ⟨fd_is_sequence, F_is_sequence⟩ := c.t.d.def_ 3 (d := dd_is_sequence) rfl
  have g_is_sequence := He.glo_ok X G (c.t.d.fact 3 (f := .glo "is_sequence") rfl)
  obtain ⟨fd_power_of, F_power_of⟩ := c.t.d.def_ 4 (d := dd_power_of) rfl
  have g_power_of := He.glo_ok X G (c.t.d.fact 4 (f := .glo "power_of") rfl)
  obtain ⟨fd_is_plain_prime, F_is_plain_prime⟩ := c.t.d.def_ 5 (d := dd_is_plain_prime) rfl
  have g_is_plain_prime := He.glo_ok X G (c.t.d.fact 5 (f := .glo "is_plain_prime") rfl)
  obtain ⟨fd_prime_paper, F_prime_paper⟩ := c.t.d.def_ 6 (d := dd_prime_paper) rfl
  have g_prime_paper := He.glo_ok X G (c.t.d.fact 6 (f := .glo "prime_paper") rfl)
  obtain ⟨fd_without_divisor, F_without_divisor⟩ := c.t.d.def_ 7 (d := dd_without_divisor) rfl
  have g_without_divisor := He.glo_ok X G (c.t.d.fact 7 (f := .glo "without_divisor") rfl)
  obtain ⟨fd_prime_holds, F_prime_holds⟩ := c.t.d.def_ 8 (d := dd_prime_holds) rfl
  have g_prime_holds := He.glo_ok X G (c.t.d.fact 8 (f := .glo "prime_holds") rfl)
  obtain ⟨fd__law_box, F__law_box⟩ := c.t.d.def_ 9 (d := dd__law_box) rfl
  have g__law_box := He.glo_ok X G (c.t.d.fact 9 (f := .glo "_law_box") rfl)
  obtain ⟨fd__law_take, F__law_take⟩ := c.t.d.def_ 10 (d := dd__law_take) rfl
  have g__law_take := He.glo_ok X G (c.t.d.fact 10 (f := .glo "_law_take") rfl)
  obtain ⟨fd__law_pick, F__law_pick⟩ := c.t.d.def_ 11 (d := dd__law_pick) rfl
  have g__law_pick := He.glo_ok X G (c.t.d.fact 11 (f := .glo "_law_pick") rfl)
  obtain ⟨fd__law_octets, F__law_octets⟩ := c.t.d.def_ 12 (d := dd__law_octets) rfl
  have g__law_octets := He.glo_ok X G (c.t.d.fact 12 (f := .glo "_law_octets") rfl)
  obtain ⟨fd__law_is_prime, F__law_is_prime⟩ := c.t.d.def_ 13 (d := dd__law_is_prime) rfl
  have g__law_is_prime := He.glo_ok X G (c.t.d.fact 13 (f := .glo "_law_is_prime") rfl)
  obtain ⟨fd__law_divisors, F__law_divisors⟩ := c.t.d.def_ 14 (d := dd__law_divisors) rfl
  have g__law_divisors := He.glo_ok X G (c.t.d.fact 14 (f := .glo "_law_divisors") rfl)
  obtain ⟨fd__law_powers, F__law_powers⟩ := c.t.d.def_ 15 (d := dd__law_powers) rfl
  have g__law_powers := He.glo_ok X G (c.t.d.fact 15 (f := .glo "_law_powers") rfl)
  obtain ⟨fd_law, F_law⟩ := c.t.d.def_ 16 (d := dd_law) rfl
  have g_law := He.glo_ok X G (c.t.d.fact 16 (f := .glo "law") rfl)
  have b_isinstance := He.free_ok X G (c.t.d.fact 17 (f := .free "isinstance") rfl)
  have b_int := He.free_ok X G (c.t.d.fact 18 (f := .free "int") rfl)
  have b_bool := He.free_ok X G (c.t.d.fact 19 (f := .free "bool") rfl)
  have b_tuple := He.free_ok X G (c.t.d.fact 20 (f := .free "tuple") rfl)
  have b_list := He.free_ok X G (c.t.d.fact 21 (f := .free "list") rfl)
  have b_all := He.free_ok X G (c.t.d.fact 22 (f := .free "all") rfl)
  have b_range := He.free_ok X G (c.t.d.fact 23 (f := .free "range") rfl)
  have b_len := He.free_ok X G (c.t.d.fact 24 (f := .free "len") rfl)
  have b_abs := He.free_ok X G (c.t.d.fact 25 (f := .free "abs") rfl)
  have b_repr := He.free_ok X G (c.t.d.fact 26 (f := .free "repr") rfl)
  have c_ROOT : GlD K mg "ROOT" d_ROOT := GlD.int (He.int_ok X G (c.t.d.fact 27 (f := .int "ROOT" 37) rfl))
  have c_PRIME : GlD K mg "PRIME" d_PRIME := GlD.int (He.int_ok X G (c.t.d.fact 28 (f := .int "PRIME" 2305843009213693951) rfl))
  have exx := c.more
  unfold ex at exx
  simp only [Bool.and_eq_true] at exx
  obtain ⟨e1_DIVISORS, e2_DIVISORS⟩ := exx
  have c_DIVISORS : GlD K mg "DIVISORS" d_DIVISORS := GlD.tupI (PySem.W.mg_of X G (He.eqO_ok e1_DIVISORS)) (fun H => He.tupB_ok e2_DIVISORS H) rfl
  have e := hfa.symm.trans g_law
  cases e
  have bb := FunD.bindsA (ps := ["_law_script"]) F_law fun _ _ _ _ _ _ us hl => match us, hl with | [_], _ => rfl
  refine ⟨fd_law, fun s v => bb s [v] rfl, fun base _ _ => ?_⟩
  have C_is_integer := ok_is_integer (P := P) (w := w) (base := base) (T := T) F_is_integer g_is_integer b_isinstance b_int b_bool
  have C_is_number := ok_is_number (P := P) (w := w) (base := base) (T := T) F_is_number g_is_number C_is_integer
  have C_is_below := ok_is_below (P := P) (w := w) (base := base) (T := T) F_is_below g_is_below C_is_number
  have C_is_sequence := ok_is_sequence (P := P) (w := w) (base := base) (T := T) F_is_sequence g_is_sequence b_isinstance b_tuple b_list
  have C_power_of := ok_power_of (P := P) (w := w) (base := base) (T := T) F_power_of g_power_of
  have C_is_plain_prime := ok_is_plain_prime (P := P) (w := w) (base := base) (T := T) F_is_plain_prime g_is_plain_prime b_all b_range C_is_below
  have C_prime_paper := ok_prime_paper (P := P) (w := w) (base := base) (T := T) F_prime_paper g_prime_paper c_ROOT c_DIVISORS
  have C_without_divisor := ok_without_divisor (P := P) (w := w) (base := base) (T := T) F_without_divisor g_without_divisor
  have C_prime_holds := ok_prime_holds (P := P) (w := w) (base := base) (T := T) F_prime_holds g_prime_holds b_len b_all C_is_sequence C_is_below C_is_plain_prime C_without_divisor C_power_of
  have C__law_box := ok__law_box (P := P) (w := w) (base := base) (T := T) F__law_box g__law_box b_len b_abs b_int
  have C__law_take := ok__law_take (P := P) (w := w) (base := base) (T := T) F__law_take g__law_take b_int
  have C__law_pick := ok__law_pick (P := P) (w := w) (base := base) (T := T) F__law_pick g__law_pick b_len C__law_take
  have C__law_octets := ok__law_octets (P := P) (w := w) (base := base) (T := T) F__law_octets g__law_octets b_range b_tuple C__law_take
  have C__law_is_prime := ok__law_is_prime (P := P) (w := w) (base := base) (T := T) F__law_is_prime g__law_is_prime b_range b_int
  have C__law_divisors := ok__law_divisors (P := P) (w := w) (base := base) (T := T) F__law_divisors g__law_divisors b_range b_int C__law_is_prime
  have C__law_powers := ok__law_powers (P := P) (w := w) (base := base) (T := T) F__law_powers g__law_powers b_int b_range
  exact okG_law F_law b_range b_list b_tuple b_repr b_len b_isinstance b_int c_PRIME C__law_box C__law_take C__law_pick C__law_divisors C__law_is_prime C__law_powers C_prime_holds C_prime_paper
end K33

set_option Elab.async false
set_option maxRecDepth 100000
namespace K33
/-! ### the numbers up to 201, looked at one by one -/
def rg : List Int := (List.range 98).map fun (k : Nat) => (2 : Int) + k
def pl (q : Int) : Bool := (decide (0 ≤ q) && decide (q < 10000)) && decide (2 ≤ q) && (rg.filter fun d => decide (d * d ≤ q)).all fun d => q % d != 0
def wdO : Nat → Int → Int → Option Int
  | 0, _, _ => none
  | f + 1, n, d => if n % d = 0 then wdO f (n / d) d else some n
def restL : List Int → Int → Option (Option Int)
  | [], r => some (some r)
  | d :: ds, r => if r % d = 0 then match wdO 100 r d with
      | some r' => restL ds r'
      | none => none
    else some none
/-- the ints i, .., j - 1 -/
def rng (i j : Int) : List Int := (List.range (j - i).toNat).map fun (k : Nat) => i + k
def prB (n : Int) : Bool := decide (1 < n) && ((rng 2 n).filter fun d => decide (d * d ≤ n) && n % d == 0).isEmpty
def dvs (n : Int) : List Int := (rng 2 (n + 1)).filter fun d => n % d == 0 && prB d
def ordR (r n : Int) : Nat → Int → Int → Int
  | 0, _, _ => 0
  | f + 1, i, here => if here = 1 % n then i else ordR r n f (i + 1) (here * r % n)
def ordC (r n : Int) : Int := ordR r n (n - 1).toNat 1 (r % n)
def lucN (n r : Nat) : Bool := r ^ (n - 1) % n == 1 % n && (dvs ((n : Int) - 1)).all fun q => r ^ ((n - 1) / q.toNat) % n != 1
def okP (n : Int) : Bool := (dvs (n - 1)).all pl && decide ((dvs (n - 1)).length ≤ 10) && (restL (dvs (n - 1)) (n - 1) == some (some 1)) && (restL (dvs (n - 1)).reverse (n - 1) == some (some 1)) &&
  ((List.range (dvs (n - 1)).length).all fun i => match restL ((dvs (n - 1)).eraseIdx i) (n - 1) with
    | some none => true
    | some (some r) => r != 1
    | none => false) &&
  ([2, 3, 5, 7, 11, 13, 4, 9, 1, 0].all fun m => (dvs (n - 1)).contains m || !pl m || match restL (dvs (n - 1) ++ [m]) (n - 1) with
    | some none => true
    | some (some r) => r != 1
    | none => false)
def okO (n : Nat) : Bool := ((List.range (n - 1)).any fun r => lucN n (r + 1)) == prB n
/-- each number from 2 on has a prime that divides it -/
def okQ (n : Int) : Bool := (dvs n).length != 0
theorem all_okP : (rng 2 202).all okP = true := by decide +kernel
theorem all_okQ : (rng 2 202).all okQ = true := by decide +kernel
theorem all_okO : ((List.range 200).all fun k => okO (k + 2)) = true := by decide +kernel
end K33

set_option Elab.async false
set_option linter.all false
set_option maxRecDepth 100000
namespace K33
open PySem PySem.Spec PyProof.Rows L2 Kw
theorem ix0 {μ : Mem} {l : Nat} {a b : D} (h : μ[l]? = some (.lst [a, b])) : gIx (.loc l) (.int 0) μ = some a := by
  simp [gIx, seqOf, lstOf, h]; rfl
theorem ix1 {μ : Mem} {l : Nat} {a b : D} (h : μ[l]? = some (.lst [a, b])) : gIx (.loc l) (.int 1) μ = some b := by
  simp [gIx, seqOf, lstOf, h]; rfl
theorem st0 {μ : Mem} {l : Nat} {a b c : D} (h : μ[l]? = some (.lst [a, b])) : gSet (.loc l) (.int 0) c μ = some (μ.set l (.lst [c, b])) := by
  simp [gSet, h]; rfl
theorem st1 {μ : Mem} {l : Nat} {a b c : D} (h : μ[l]? = some (.lst [a, b])) : gSet (.loc l) (.int 1) c μ = some (μ.set l (.lst [a, c])) := by
  simp [gSet, h]; rfl
theorem take_ok {μ : Mem} {l : Nat} {m : Int} (hb : Box μ l) (h0 : 0 < m) (h1 : m < 1073741824) : ∃ r μ', f__law_take [.loc l, .int m] μ = .ok (.int r) μ' ∧ 0 ≤ r ∧ r < m ∧ Box μ' l ∧ Stay l μ μ' := by
  obtain ⟨g, x, e, hg, hx, hx2⟩ := hb
  have hl : l < μ.length := (List.getElem?_eq_some_iff.mp e).1
  by_cases hp : 0 < g
  · refine ⟨g % m, μ.set l (.lst [.int (g / m), .int x]), ?_, Int.emod_nonneg _ (by omega), Int.emod_lt_of_pos _ h0, ⟨g / m, x, List.getElem?_set_self hl, Int.ediv_nonneg hg (by omega), hx, hx2⟩, .set l μ _⟩
    unfold f__law_take bodyM m__law_take
    simp [eVar, ix0 e, hp, gMod_int h0, gFdv_int h0 h1, st0 e]
  · obtain ⟨r, hr⟩ : ∃ r : Int, r = (x * 40692 + 89) % 2147483399 := ⟨_, rfl⟩
    have r0 : 0 ≤ r := by rw [hr]; exact Int.emod_nonneg _ (by decide)
    have r1 : r < 2147483399 := by rw [hr]; exact Int.emod_lt_of_pos _ (by decide)
    obtain ⟨y, hy⟩ : ∃ y : Int, y = (r * 39373 + 41) % 2147483587 + 1 := ⟨_, rfl⟩
    have y0 : 1 ≤ y := by rw [hy]; have := Int.emod_nonneg (r * 39373 + 41) (b := 2147483587) (by decide); omega
    have y1 : y ≤ 2147483587 := by rw [hy]; have := Int.emod_lt_of_pos (r * 39373 + 41) (b := 2147483587) (by decide); omega
    have e2 : (μ.set l (.lst [.int g, .int y]))[l]? = some (.lst [.int g, .int y]) := List.getElem?_set_self hl
    refine ⟨(r * 2147483629 + y) / 8171 % m, μ.set l (.lst [.int g, .int y]), ?_, Int.emod_nonneg _ (by omega), Int.emod_lt_of_pos _ h0, ⟨g, y, e2, hg, y0, by omega⟩, .set l μ _⟩
    unfold f__law_take bodyM m__law_take
    simp [eVar, ix0 e, hp, ix1 e, gMul_r, gMod_int, st1 e, ← hr, ← hy, ix1 e2, gFdv_int, gMod_int h0]
theorem takeM {μ : Mem} {l : Nat} {m : Int} (hb : Box μ l) (h0 : 0 < m) (h1 : m < 1073741824) : ∃ r μ', callM f__law_take [.loc l, .int m] μ = .ok (.int r) μ' ∧ 0 ≤ r ∧ r < m ∧ Box μ' l ∧ Stay l μ μ' := by
  obtain ⟨r, μ', h, h2, h3, h4, h5⟩ := take_ok hb h0 h1
  exact ⟨r, μ', callM_ok h h5.1, h2, h3, h4, h5⟩
theorem atI_in {α : Type} {xs : List α} {r : Int} (h0 : 0 ≤ r) (h1 : r < xs.length) : ∃ y, atI xs r = some y ∧ y ∈ xs := by
  have hn : r.toNat < xs.length := by omega
  refine ⟨xs[r.toNat], ?_, List.getElem_mem hn⟩
  unfold atI ixN
  rw [if_pos h0, if_pos (by omega)]
  exact List.getElem?_eq_getElem hn
theorem pickM {μ : Mem} {l : Nat} {xs : List D} (hb : Box μ l) (h0 : xs ≠ []) (h1 : xs.length < 1073741824) :
    ∃ y μ', callM f__law_pick [.loc l, .lst xs] μ = .ok y μ' ∧ y ∈ xs ∧ Box μ' l ∧ Stay l μ μ' := by
  have hp : 0 < xs.length := by cases xs with
    | nil => exact absurd rfl h0
    | cons a b => simp
  obtain ⟨r, μ', h, r0, r1, hb', hs⟩ := takeM (m := xs.length) hb (by omega) (by omega)
  obtain ⟨y, hy, hm⟩ := atI_in r0 r1
  refine ⟨y, μ', callM_ok ?_ hs.1, hm, hb', hs⟩
  unfold f__law_pick bodyM m__law_pick
  simp [eVar, gLen, seqOf, lstOf, h, gIx, hy]
theorem ix_scr {ns : List Int} {μ : Mem} {r : Int} (h0 : 0 ≤ r) (h1 : r < ns.length) : ∃ z, gIx (.scr (ns.map D.int)) (.int r) μ = some (.int z) := by
  obtain ⟨y, hy, hm⟩ := atI_in (xs := ns.map D.int) h0 (by simpa using h1)
  obtain ⟨z, _, rfl⟩ := List.mem_map.mp hm
  exact ⟨z, hy⟩
theorem len_scr {ns : List Int} {μ : Mem} : gLen [.scr (ns.map D.int)] μ = some (.int ns.length) := by simp [gLen, seqOf, lstOf]
theorem pow18 {μ : Mem} : gPow (.int 10) (.int 18) μ = some (.int 1000000000000000000) := rfl
theorem abs_nonneg (z : Int) : 0 ≤ (if z < 0 then -z else z) := by split <;> omega
theorem box_ok {ns : List Int} {k : Int} {μ : Mem} (h0 : 0 ≤ k) : ∃ g x : Int, f__law_box [.scr (ns.map D.int), .int k] μ = .ok (.loc μ.length) (μ ++ [.lst [.int g, .int x]]) ∧ 0 ≤ g ∧ 1 ≤ x ∧ x ≤ 2147483647 := by
  have fin : ∀ c : Int, 0 ≤ c → 0 ≤ (if 1000000000000000000 ≤ c then c else 0) ∧ 1 ≤ (c % 2147483587 * 69767 + 173 * k) % 2147483587 + 1 ∧ (c % 2147483587 * 69767 + 173 * k) % 2147483587 + 1 ≤ 2147483647 := fun c hc => by
    refine ⟨by split <;> omega, ?_, ?_⟩
    · have := Int.emod_nonneg (c % 2147483587 * 69767 + 173 * k) (b := 2147483587) (by decide); omega
    · have := Int.emod_lt_of_pos (c % 2147483587 * 69767 + 173 * k) (b := 2147483587) (by decide); omega
  suffices h : ∃ c : Int, 0 ≤ c ∧ f__law_box [.scr (ns.map D.int), .int k] μ = .ok (.loc μ.length) (μ ++ [.lst [.int (if 1000000000000000000 ≤ c then c else 0), .int ((c % 2147483587 * 69767 + 173 * k) % 2147483587 + 1)]]) by
    obtain ⟨c, hc, h⟩ := h
    exact ⟨_, _, h, fin c hc⟩
  have two : ∀ a b : D, gNewL [a, b] μ = some (.loc μ.length, μ ++ [.lst [a, b]]) := fun a b => rfl
  by_cases h1 : k < ns.length
  · obtain ⟨z, hz⟩ := ix_scr (ns := ns) (μ := μ) h0 h1
    refine ⟨if z < 0 then -z else z, abs_nonneg z, ?_⟩
    generalize hc : (if z < 0 then -z else z) = c
    unfold f__law_box bodyM m__law_box
    by_cases hq : 1000000000000000000 ≤ c <;> simp [eVar, gMul_r, gMul_l, len_scr, h1, hz, hc, pow18, gMod_int, two, hq]
  · by_cases h2 : 0 < ns.length
    · have hk := Int.emod_nonneg k (b := (ns.length : Int)) (by omega)
      have hk2 := Int.emod_lt_of_pos k (b := (ns.length : Int)) (by omega)
      obtain ⟨z, hz⟩ := ix_scr (ns := ns) (μ := μ) hk hk2
      have az := abs_nonneg z
      refine ⟨8419 * k + 173 + (if z < 0 then -z else z) % 2147483587 * 50551, ?_, ?_⟩
      · have := Int.emod_nonneg (if z < 0 then -z else z) (b := 2147483587) (by decide); omega
      · have hl2 : (0 : Int) < ns.length := by omega
        have hm := gMod_int (i := k) (μ := μ) hl2
        generalize hc : (if z < 0 then -z else z) = c at *
        unfold f__law_box bodyM m__law_box
        by_cases hq : 1000000000000000000 ≤ 8419 * k + 173 + c % 2147483587 * 50551 <;> simp [eVar, gMul_r, gMul_l, len_scr, h1, h2, hm, hz, hc, pow18, gMod_int, two, hq]
    · refine ⟨8419 * k + 173, by omega, ?_⟩
      unfold f__law_box bodyM m__law_box
      by_cases hq : 1000000000000000000 ≤ 8419 * k + 173 <;> simp [eVar, gMul_r, gMul_l, len_scr, h1, h2, pow18, gMod_int, two, hq]
/-! ### words -/
theorem is_integer_ok (d : D) : f_is_integer [d] [] = match d with
  | .int _ => .ok (.bl true) []
  | .bl _ => .ok (.bl false) []
  | .non => .ok (.bl false) []
  | .str _ => .ok (.bl false) []
  | .tup _ => .ok (.bl false) []
  | .lst _ => .ok (.bl false) []
  | .scr _ => .ok (.bl false) []
  | _ => .stuck := by
  cases d <;> rfl
theorem is_number_int (i : Int) : f_is_number [.int i] [] = .ok (.bl (decide (0 ≤ i))) [] := by
  have h := callP_ok (μ := []) (is_integer_ok (.int i)) rfl rfl
  unfold f_is_number bodyM m_is_number
  simp [eVar, h]
theorem is_below_int (i m : Int) : f_is_below [.int i, .int m] [] = .ok (.bl (decide (0 ≤ i) && decide (i < m))) [] := by
  have h := callP_ok (μ := []) (is_number_int i) rfl rfl
  unfold f_is_below bodyM m_is_below
  by_cases h0 : 0 ≤ i <;> simp [eVar, h, h0]
theorem is_number_no {d : D} (h : f_is_integer [d] [] = .ok (.bl false) []) (hd : locBs false 0 [d] = true) (hv : ∀ δ μ, eVar 0 (some d :: δ) μ = .ok d μ) : f_is_number [d] [] = .ok (.bl false) [] := by
  have h := callP_ok (μ := []) h hd rfl
  unfold f_is_number bodyM m_is_number
  simp [hv, h]
theorem is_below_no {d : D} {m : Int} (h : f_is_number [d] [] = .ok (.bl false) []) (hd : locBs false 0 [d] = true) (hv : ∀ δ μ, eVar 0 (some d :: δ) μ = .ok d μ) : f_is_below [d, .int m] [] = .ok (.bl false) [] := by
  have h := callP_ok (μ := []) h hd rfl
  unfold f_is_below bodyM m_is_below
  simp [hv, h]
/-! ### plain primes -/
theorem rg_pos {d : Int} (h : d ∈ rg) : 2 ≤ d ∧ d < 100 := by
  obtain ⟨k, hk, rfl⟩ := List.mem_map.mp h
  rw [List.mem_range] at hk
  omega
theorem plain_ok (q : Int) : f_is_plain_prime [.int q] [] = .ok (.bl (pl q)) [] := by
  have h := callP_ok (μ := []) (is_below_int q 10000) rfl rfl
  have hr : (iRange2 (aCons (eC (.int 2)) (aCons (eC (.int 100)) aNil)) [some (.int q), none] []) = .ok (rg.map D.int) [] := by
    unfold iRange2 rg
    simp [List.map_map]
  have hl := lcL_ints (g := gNm 1) (mt := tBl (e2 gLe (e2 gMul (eVar 1) (eVar 1)) (eVar 0))) (me := e2 gNe (e2 gMod (eVar 0) (eVar 1)) (eC (.int 0))) (δ := [some (.int q), none]) (μ := []) (is := rg)
    (t := fun d => decide (d * d ≤ q)) (f := fun d => .bl (q % d != 0)) (fun k hk => by
      have hp := rg_pos hk
      refine ⟨[some (.int q), some (.int k)], rfl, ?_, fun _ => ?_⟩
      · simp [eVar, gMul_r (i := k) (j := k) (by omega) (by omega)]
      · simp [eVar, gMod_int (i := q) (j := k) (by omega), bne])
  have hsz : (rg.filter (fun d => decide (d * d ≤ q))).length ≤ sizeLine := by
    refine Nat.le_trans (List.length_filter_le _ _) ?_
    show rg.length ≤ 2 ^ 24
    simp [rg]
  unfold f_is_plain_prime bodyM m_is_plain_prime
  by_cases h1 : 0 ≤ q ∧ q < 10000
  · by_cases h2 : 2 ≤ q
    · have h3 : ¬ q < 2 := by omega
      simp [eVar, h, h1.1, h1.2, h3, hr, wipeD, hl, hsz, gAll, lstOf, boolsOf_map, pl, h2]
    · have h3 : q < 2 := by omega
      simp [eVar, h, h1.1, h1.2, h3, pl, h2]
  · have h1' : (decide (0 ≤ q) && decide (q < 10000)) = false := by
      by_cases a : 0 ≤ q <;> by_cases b : q < 10000 <;> simp [a, b] <;> exact h1 ⟨a, b⟩
    have h : callP f_is_below [.int q, .int 10000] [] = .ok (.bl false) [] := by rw [h, h1']
    have hp : pl q = false := by unfold pl; rw [h1']; rfl
    simp [eVar, h, hp]
/-! ### powers -/
theorem pow_emod (a n : Int) : ∀ m : Nat, (a % n) ^ m % n = a ^ m % n
  | 0 => by simp
  | m + 1 => by rw [Int.pow_succ, Int.pow_succ, Int.mul_emod, pow_emod a n m, Int.emod_emod, ← Int.mul_emod]
def pcond : TM := tBl (e2 gGt (eVar 1) (eC (.int 0)))
def pbody : SM := (sSeq (sIf (tBl (e2 gEq (e2 gMod (eVar 1) (eC (.int 2))) (eC (.int 1)))) (sAsg (e2 gMod (e2 gMul (eVar 3) (eVar 4)) (eVar 2)) (gNm 3)) sNext) (sSeq (sAsg (e2 gMod (e2 gMul (eVar 4) (eVar 4)) (eVar 2)) (gNm 4)) (sAug 1 gFdv (eC (.int 2)))))
theorem ploop {b : D} {n : Int} (hn : 0 < n) (hn2 : n ≤ 4611686018427387904) : ∀ (f k : Nat) (x y : Int), k < 2 ^ f → 0 ≤ x → x < n → 0 ≤ y → y < n → ∃ z, whileS pcond pbody (f + 1) [some b, some (.int (k : Int)), some (.int n), some (.int x), some (.int y)] [] = .nx [some b, some (.int 0), some (.int n), some (.int (x * y ^ k % n)), some z] []
  | f, 0, x, y, _, h0, h1, _, _ => by
    refine ⟨.int y, ?_⟩
    unfold whileS pcond
    simp [eVar, Int.emod_eq_of_lt h0 h1]
  | 0, k + 1, x, y, hk, _, _, _, _ => by simp at hk
  | f + 1, k + 1, x, y, hk, h0, h1, h2, h3 => by
    obtain ⟨j, hj⟩ : ∃ j : Nat, j = (k + 1) / 2 := ⟨_, rfl⟩
    have hj2 : j < 2 ^ f := by rw [Nat.pow_succ] at hk; omega
    have e1 : ((k : Int) + 1) / 2 = (j : Int) := by omega
    have hy0 := Int.emod_nonneg (y * y) (b := n) (by omega)
    have hy1 := Int.emod_lt_of_pos (y * y) hn
    have hm2 := gMul_l (μ := []) (i := y) (j := y) (by omega) (by omega)
    have hd := gMod_int (μ := []) (i := y * y) hn
    by_cases ho : ((k : Int) + 1) % 2 = 1
    · have hx0 := Int.emod_nonneg (x * y) (b := n) (by omega)
      have hx1 := Int.emod_lt_of_pos (x * y) hn
      obtain ⟨z, ih⟩ := ploop hn hn2 f j (x * y % n) (y * y % n) hj2 hx0 hx1 hy0 hy1
      refine ⟨z, ?_⟩
      have hm := gMul_l (μ := []) (i := x) (j := y) (by omega) (by omega)
      have hd2 := gMod_int (μ := []) (i := x * y) hn
      have goal : x * y % n * (y * y % n) ^ j % n = x * y ^ (k + 1) % n := by
        have hk1 : k + 1 = 2 * j + 1 := by omega
        rw [Int.mul_emod, pow_emod, Int.emod_emod, ← Int.mul_emod, hk1, Int.pow_succ, Int.pow_mul]
        congr 1
        rw [show y ^ 2 = y * y from by rw [Int.pow_succ, Int.pow_succ, Int.pow_zero, Int.one_mul], Int.mul_assoc, Int.mul_comm y]
      rw [goal] at ih
      have hp : (0 : Int) < (k : Int) + 1 := by omega
      unfold whileS
      show ((pcond _ _).bindS _ _) = _
      unfold pcond
      simp [eVar, hp, pbody, gMod_int, ho, hm, hd2, hm2, hd, sAug, gFdv_int, e1]
      exact ih
    · obtain ⟨z, ih⟩ := ploop hn hn2 f j x (y * y % n) hj2 h0 h1 hy0 hy1
      refine ⟨z, ?_⟩
      have goal : x * (y * y % n) ^ j % n = x * y ^ (k + 1) % n := by
        have hk1 : k + 1 = 2 * j := by omega
        rw [Int.mul_emod, pow_emod, ← Int.mul_emod, hk1, Int.pow_mul]
        rw [show y ^ 2 = y * y from by rw [Int.pow_succ, Int.pow_succ, Int.pow_zero, Int.one_mul]]
      rw [goal] at ih
      have hp : (0 : Int) < (k : Int) + 1 := by omega
      unfold whileS
      show ((pcond _ _).bindS _ _) = _
      unfold pcond
      simp [eVar, hp, pbody, gMod_int, ho, hm2, hd, sAug, gFdv_int, e1]
      exact ih
theorem power_ok {b n : Int} {k : Nat} (hn : 0 < n) (hn2 : n ≤ 4611686018427387904) (hk : k < 2 ^ 199) : f_power_of [.int b, .int (k : Int), .int n] [] = .ok (.int (b ^ k % n)) [] := by
  have h1 := Int.emod_nonneg 1 (b := n) (by omega)
  have h2 := Int.emod_lt_of_pos 1 hn
  have h3 := Int.emod_nonneg b (b := n) (by omega)
  have h4 := Int.emod_lt_of_pos b hn
  obtain ⟨z, h⟩ := ploop (b := .int b) hn hn2 199 k (1 % n) (b % n) hk h1 h2 h3 h4
  have goal : 1 % n * (b % n) ^ k % n = b ^ k % n := by rw [Int.mul_emod, pow_emod, Int.emod_emod, ← Int.mul_emod, Int.one_mul]
  rw [goal] at h
  unfold f_power_of bodyM m_power_of
  unfold pcond pbody at h
  simp [eVar, gMod_int hn, sWhile, h]
/-! ### divisors taken out -/
theorem wd_loop {d : Int} (h0 : 0 < d) (h1 : d < 1073741824) : ∀ (f : Nat) (n r : Int), wdO f n d = some r → whileS (tBl (e2 gEq (e2 gMod (eVar 0) (eVar 1)) (eC (.int 0)))) (sAug 0 gFdv (eVar 1)) f [some (.int n), some (.int d)] [] = .nx [some (.int r), some (.int d)] []
  | 0, _, _, h => by cases h
  | f + 1, n, r, h => by
    unfold wdO at h
    unfold whileS
    by_cases hn : n % d = 0
    · rw [if_pos hn] at h
      have ih := wd_loop h0 h1 f _ _ h
      simp [eVar, gMod_int h0, hn, sAug, gFdv_int h0 h1]
      exact ih
    · rw [if_neg hn] at h
      cases h
      simp [eVar, gMod_int h0, hn]
theorem wd_ok {n d r : Int} (h0 : 0 < d) (h1 : d < 1073741824) (h : wdO 100 n d = some r) : f_without_divisor [.int n, .int d] [] = .ok (.int r) [] := by
  unfold f_without_divisor bodyM m_without_divisor
  simp [sWhile, wd_loop h0 h1 _ _ _ h, eVar]
/-! ### papers that show a prime -/
def pw (root k n : Int) : Int := root ^ k.toNat % n
def phC (n root : Int) (ps : List Int) : Option Bool :=
  if (0 ≤ root ∧ root < n) ∧ root ≠ 0 ∧ ps.all pl = true then match restL ps (n - 1) with
    | none => none
    | some none => some false
    | some (some r) => if r = 1 ∧ pw root (n - 1) n = 1 % n then some (ps.all fun q => pw root ((n - 1) / q) n != 1) else some false
  else some false
theorem pl_pos {q : Int} (h : pl q = true) : 2 ≤ q ∧ q < 10000 := by
  unfold pl at h
  simp only [Bool.and_eq_true, decide_eq_true_eq] at h
  exact ⟨h.1.2, h.1.1.2⟩
theorem locBs_ints (sc : Bool) (k : Nat) : ∀ l : List Int, locBs sc k (l.map D.int) = true
  | [] => rfl
  | a :: l => by
    have := locBs_ints sc k l
    simp only [List.map_cons, locBs, locB, this, Bool.and_self]
theorem rest_loop {n root : Int} {v p : D} : ∀ (ps : List Int) (rest : Int) (o : Option D), (∀ q ∈ ps, 2 ≤ q ∧ q < 10000) → (restL ps rest = some none → loopS (gNm 5) (sSeq (sIf (tBl (e2 gNe (e2 gMod (eVar 4) (eVar 5)) (eC (.int 0)))) (sRet (eC (.bl false))) sNext) (sAsg (eCallP f_without_divisor (aCons (eVar 4) (aCons (eVar 5) aNil))) (gNm 4))) (ps.map D.int) [some (.int n), some v, some (.int root), some p, some (.int rest), o] [] = .ret (.bl false) []) ∧
    (∀ r, restL ps rest = some (some r) → ∃ o', loopS (gNm 5) (sSeq (sIf (tBl (e2 gNe (e2 gMod (eVar 4) (eVar 5)) (eC (.int 0)))) (sRet (eC (.bl false))) sNext) (sAsg (eCallP f_without_divisor (aCons (eVar 4) (aCons (eVar 5) aNil))) (gNm 4))) (ps.map D.int) [some (.int n), some v, some (.int root), some p, some (.int rest), o] [] = .nx [some (.int n), some v, some (.int root), some p, some (.int r), o'] [])
  | [], rest, o, _ => ⟨(fun h => nomatch h), fun r h => by cases h; exact ⟨o, rfl⟩⟩
  | d :: ds, rest, o, hq => by
    obtain ⟨d0, d1⟩ := hq d List.mem_cons_self
    have hq' : ∀ q ∈ ds, 2 ≤ q ∧ q < 10000 := fun q h => hq q (List.mem_cons_of_mem _ h)
    rw [List.map_cons]
    unfold loopS restL
    by_cases hm : rest % d = 0
    · rw [if_pos hm]
      cases hw : wdO 100 rest d with
      | none => exact ⟨(fun h => nomatch h), (fun r h => nomatch h)⟩
      | some r' =>
        have hc := callP_ok (μ := []) (wd_ok (by omega) (by omega) hw) rfl rfl
        have ih := rest_loop (n := n) (root := root) (v := v) (p := p) ds r' (some (.int d)) hq'
        simp [eVar, gMod_int (show 0 < d by omega), hm, hc]
        exact ih
    · rw [if_neg hm]
      refine ⟨fun _ => ?_, (fun r h => nomatch h)⟩
      simp [eVar, gMod_int (show 0 < d by omega), hm]
theorem ph_ok {n root : Int} {ps : List Int} {v p : D} {b : Bool} (hn : 1 < n) (hn2 : n ≤ 4611686018427387904) (hv : v = .lst [.int root, p] ∨ v = .tup [.int root, p]) (hp : p = .lst (ps.map D.int) ∨ p = .tup (ps.map D.int) ∨ p = .scr (ps.map D.int)) (hl : ps.length ≤ 1000) (h : phC n root ps = some b) :
    f_prime_holds [.int n, v] [] = .ok (.bl b) [] := by
  have lp : locB false 0 p = true := by rcases hp with rfl | rfl | rfl <;> simp [locB, locBs_ints]
  have lv : locBs false 0 [v] = true := by rcases hv with rfl | rfl <;> simp only [locBs, locB, lp, Bool.and_self]
  have isv := callP_ok (μ := []) (m := f_is_sequence) (ds := [v]) (d := .bl true) (μ' := []) (by rcases hv with rfl | rfl <;> rfl) lv rfl
  have isp := callP_ok (μ := []) (m := f_is_sequence) (ds := [p]) (d := .bl true) (μ' := []) (by rcases hp with rfl | rfl | rfl <;> rfl) (by simp only [locBs, lp, Bool.and_self]) rfl
  have lnv : gLen [v] [] = some (.int 2) := by rcases hv with rfl | rfl <;> rfl
  have ixv : gIx v (.int 1) [] = some p := by rcases hv with rfl | rfl <;> rfl
  have bl := callP_ok (μ := []) (is_below_int root n) rfl rfl
  have hsz : ps.length ≤ sizeLine := by show _ ≤ 2 ^ 24; omega
  have e1 := lcL_ints (g := gNm 5) (mt := tYesM) (me := eCallP f_is_plain_prime (aCons (eVar 5) aNil)) (δ := [some (.int n), some v, some (.int root), some p, none, none]) (μ := []) (is := ps) (t := fun _ => true) (f := fun q => .bl (pl q)) (fun q _ => by
    refine ⟨[some (.int n), some v, some (.int root), some p, none, some (.int q)], rfl, rfl, fun _ => ?_⟩
    have := callP_ok (μ := []) (plain_ok q) rfl rfl
    simp [eVar, this])
  have ft : ∀ l : List Int, l.filter (fun _ => true) = l := fun l => by simp
  rw [ft] at e1
  have e2 : ∀ r o', (∀ q ∈ ps, 2 ≤ q ∧ q < 10000) → n < 2 ^ 199 → lcL (gNm 5) tYesM (e2 gNe (eCallP f_power_of (aCons (eVar 2) (aCons (e2 gFdv (e2 Kw.gSub (eVar 0) (eC (.int 1))) (eVar 5)) (aCons (eVar 0) aNil)))) (eC (.int 1))) [some (.int n), some v, some (.int root), some p, some (.int r), o'] (ps.map D.int) [] = .ok (ps.map fun q => .bl (pw root ((n - 1) / q) n != 1)) [] := fun r o' hq hn3 => by
    have := lcL_ints (g := gNm 5) (mt := tYesM) (me := e2 gNe (eCallP f_power_of (aCons (eVar 2) (aCons (e2 gFdv (e2 Kw.gSub (eVar 0) (eC (.int 1))) (eVar 5)) (aCons (eVar 0) aNil)))) (eC (.int 1))) (δ := [some (.int n), some v, some (.int root), some p, some (.int r), o']) (μ := []) (is := ps) (t := fun _ => true) (f := fun q => .bl (pw root ((n - 1) / q) n != 1)) (fun q hqm => by
      refine ⟨[some (.int n), some v, some (.int root), some p, some (.int r), some (.int q)], rfl, rfl, fun _ => ?_⟩
      obtain ⟨q0, q1⟩ := hq q hqm
      have k0 : 0 ≤ (n - 1) / q := Int.ediv_nonneg (by omega) (by omega)
      have k1 : (n - 1) / q ≤ n - 1 := Int.ediv_le_self _ (by omega)
      have k2 : (((n - 1) / q).toNat : Int) = (n - 1) / q := Int.toNat_of_nonneg k0
      have pk := callP_ok (μ := []) (power_ok (b := root) (n := n) (k := ((n - 1) / q).toNat) (by omega) hn2 (by omega)) rfl rfl
      rw [k2] at pk
      simp [eVar, gFdv_int (i := n - 1) (show 0 < q by omega) (by omega), pk, pw, bne])
    rw [ft] at this
    exact this
  have hn3 : n < 2 ^ 199 := by omega
  have pn := callP_ok (μ := []) (power_ok (b := root) (n := n) (k := (n - 1).toNat) (by omega) hn2 (by omega)) rfl rfl
  rw [Int.toNat_of_nonneg (show 0 ≤ n - 1 by omega), show root ^ (n - 1).toNat % n = pw root (n - 1) n from rfl] at pn
  have m1 := gMod_int (μ := []) (i := 1) (show 0 < n by omega)
  unfold phC at h
  by_cases c : (0 ≤ root ∧ root < n) ∧ root ≠ 0 ∧ ps.all pl = true
  · rw [if_pos c] at h
    obtain ⟨⟨c1, c2⟩, c3, c4⟩ := c
    have hq : ∀ q ∈ ps, 2 ≤ q ∧ q < 10000 := fun q hq => pl_pos (List.all_eq_true.mp c4 q hq)
    have c4' : (List.map pl ps).all id = true := by rw [List.all_map]; exact c4
    obtain ⟨rl1, rl2⟩ := rest_loop (n := n) (root := root) (v := v) (p := p) ps (n - 1) none hq
    cases hr : restL ps (n - 1) with
    | none => rw [hr] at h; cases h
    | some o =>
      rw [hr] at h
      cases o with
      | none =>
        cases h
        have rl := rl1 hr
        unfold f_prime_holds bodyM m_prime_holds
        rcases hv with rfl | rfl <;> rcases hp with rfl | rfl | rfl <;> simp [eVar, isv, lnv, ixv, isp, gSeq, seqOf, lstOf, gsCons, gsNil, bl, c1, c2, c3, iSeq, seqV, wipeD, e1, hsz, gAll, boolsOf_map, c4', rl]
      | some r =>
        obtain ⟨o', rl⟩ := rl2 r hr
        have e3 := e2 r none hq hn3
        simp only at h
        by_cases hc : r = 1
        · subst hc
          by_cases hw : pw root (n - 1) n = 1 % n
          · rw [if_pos ⟨rfl, hw⟩] at h
            cases h
            unfold f_prime_holds bodyM m_prime_holds
            rcases hv with rfl | rfl <;> rcases hp with rfl | rfl | rfl <;> simp [eVar, isv, lnv, ixv, isp, gSeq, seqOf, lstOf, gsCons, gsNil, bl, c1, c2, c3, iSeq, seqV, wipeD, e1, hsz, gAll, boolsOf_map, c4', rl, pn, m1, hw, e3]
          · rw [if_neg fun z => hw z.2] at h
            cases h
            unfold f_prime_holds bodyM m_prime_holds
            rcases hv with rfl | rfl <;> rcases hp with rfl | rfl | rfl <;> simp [eVar, isv, lnv, ixv, isp, gSeq, seqOf, lstOf, gsCons, gsNil, bl, c1, c2, c3, iSeq, seqV, wipeD, e1, hsz, gAll, boolsOf_map, c4', rl, pn, m1, hw]
        · rw [if_neg fun z => hc z.1] at h
          cases h
          unfold f_prime_holds bodyM m_prime_holds
          rcases hv with rfl | rfl <;> rcases hp with rfl | rfl | rfl <;> simp [eVar, isv, lnv, ixv, isp, gSeq, seqOf, lstOf, gsCons, gsNil, bl, c1, c2, c3, iSeq, seqV, wipeD, e1, hsz, gAll, boolsOf_map, c4', rl, hc]
  · rw [if_neg c] at h
    cases h
    unfold f_prime_holds bodyM m_prime_holds
    by_cases c0 : 0 ≤ root ∧ root < n
    · by_cases c1 : root = 0
      · subst c1
        rcases hv with rfl | rfl <;> rcases hp with rfl | rfl | rfl <;> simp [eVar, isv, lnv, ixv, isp, gSeq, seqOf, lstOf, gsCons, gsNil, bl, c0.2]
      · have c2 : (List.map pl ps).all id = false := by
          rw [List.all_map]
          cases z : ps.all (id ∘ pl) with
          | false => rfl
          | true => exact absurd ⟨c0, c1, z⟩ c
        rcases hv with rfl | rfl <;> rcases hp with rfl | rfl | rfl <;> simp [eVar, isv, lnv, ixv, isp, gSeq, seqOf, lstOf, gsCons, gsNil, bl, c0.1, c0.2, c1, iSeq, seqV, wipeD, e1, hsz, gAll, boolsOf_map, c2]
    · have bl' : callP f_is_below [.int root, .int n] [] = .ok (.bl false) [] := by
        rw [bl]
        congr 2
        by_cases a : 0 ≤ root <;> by_cases b : root < n <;> simp [a, b] <;> exact c0 ⟨a, b⟩
      rcases hv with rfl | rfl <;> rcases hp with rfl | rfl | rfl <;> simp [eVar, isv, lnv, ixv, isp, gSeq, seqOf, lstOf, gsCons, gsNil, bl']
end K33

set_option Elab.async false
set_option linter.all false
set_option maxRecDepth 100000
namespace K33
open PySem PySem.Spec PyProof.Rows L2 Kw
/-! ### orders -/
def PP (r n : Int) (k : Nat) : Prop := r ^ k % n = 1 % n
theorem ordR_spec {r n : Int} : ∀ (f i : Nat), 1 ≤ i → (ordR r n (f + 1) i (r ^ i % n) = ((i + f : Nat) : Int) ↔ PP r n (i + f) ∧ ∀ k, i ≤ k → k < i + f → ¬ PP r n k)
  | 0, i, hi => by
    unfold ordR
    by_cases h : r ^ i % n = 1 % n
    · rw [if_pos h]
      exact ⟨fun _ => ⟨h, fun k h1 h2 => by omega⟩, fun _ => rfl⟩
    · rw [if_neg h]
      unfold ordR
      exact ⟨fun z => by omega, fun z => absurd z.1 h⟩
  | f + 1, i, hi => by
    unfold ordR
    by_cases h : r ^ i % n = 1 % n
    · rw [if_pos h]
      exact ⟨fun z => by omega, fun z => absurd h (z.2 i (Nat.le_refl _) (by omega))⟩
    · rw [if_neg h]
      have e : r ^ i % n * r % n = r ^ (i + 1) % n := by rw [Int.pow_succ, Int.mul_emod, Int.emod_emod, ← Int.mul_emod]
      have ih := ordR_spec (r := r) (n := n) f (i + 1) (by omega)
      rw [e, show ((i : Int) + 1) = ((i + 1 : Nat) : Int) from by omega, show i + (f + 1) = i + 1 + f from by omega, ih]
      refine ⟨fun z => ⟨z.1, fun k h1 h2 => ?_⟩, fun z => ⟨z.1, fun k h1 h2 => z.2 k (by omega) (by omega)⟩⟩
      by_cases hk : k = i
      · subst hk; exact h
      · exact z.2 k (by omega) (by omega)
theorem ordC_spec {r : Int} {N : Nat} (hN : 1 ≤ N) : ordC r ((N : Int) + 1) = N ↔ PP r ((N : Int) + 1) N ∧ ∀ k, 1 ≤ k → k < N → ¬ PP r ((N : Int) + 1) k := by
  obtain ⟨M, rfl⟩ : ∃ M, N = M + 1 := ⟨N - 1, by omega⟩
  have h := ordR_spec (r := r) (n := ((M + 1 : Nat) : Int) + 1) M 1 (Nat.le_refl _)
  unfold ordC
  rw [show (((M + 1 : Nat) : Int) + 1 - 1).toNat = M + 1 from by omega]
  rw [Int.pow_succ, Int.pow_zero, Int.one_mul] at h
  rw [show (1 + M : Nat) = M + 1 from by omega] at h
  exact h
theorem mem_rng {i j x : Int} : x ∈ rng i j ↔ i ≤ x ∧ x < j := by
  unfold rng
  rw [List.mem_map]
  constructor
  · rintro ⟨k, hk, rfl⟩
    rw [List.mem_range] at hk
    omega
  · intro h
    exact ⟨(x - i).toNat, List.mem_range.mpr (by omega), by omega⟩
theorem mem_dvs {n q : Int} : q ∈ dvs n ↔ (2 ≤ q ∧ q ≤ n) ∧ n % q = 0 ∧ prB q = true := by
  unfold dvs
  rw [List.mem_filter, mem_rng]
  simp only [Bool.and_eq_true, beq_iff_eq]
  constructor
  · rintro ⟨⟨a, b⟩, c, d⟩; exact ⟨⟨a, by omega⟩, c, d⟩
  · rintro ⟨⟨a, b⟩, c, d⟩; exact ⟨⟨a, by omega⟩, c, d⟩
theorem PP_mul {r n : Int} {k : Nat} (h : PP r n k) (a : Nat) : PP r n (k * a) := by
  unfold PP at *
  rw [Int.pow_mul, ← pow_emod, h, pow_emod, Int.one_pow]
theorem luc_min {r : Int} {N : Nat} (h1 : 1 ≤ N) (h2 : N ≤ 200) (hP : PP r ((N : Int) + 1) N) (hq : ∀ q ∈ dvs (N : Int), ¬ PP r ((N : Int) + 1) ((N : Int) / q).toNat) : ∀ k, 1 ≤ k → k < N → ¬ PP r ((N : Int) + 1) k := by
  intro k
  induction k using Nat.strongRecOn with
  | ind k ih =>
    intro k1 k2 hk
    have hN : N = k * (N / k) + N % k := (Nat.div_add_mod N k).symm
    have hb : PP r ((N : Int) + 1) (N % k) := by
      have hm := PP_mul hk (N / k)
      unfold PP at *
      rw [hN, Int.pow_add, Int.mul_emod, ← hN, hm] at hP
      rw [← hP]
      have : (1 : Int) % ((N : Int) + 1) = 1 := Int.emod_eq_of_lt (by omega) (by omega)
      rw [this, Int.one_mul, Int.emod_emod]
    have hlt : N % k < k := Nat.mod_lt _ (by omega)
    by_cases hb0 : N % k = 0
    · have ha : 2 ≤ N / k := by
        have hm : N = k * (N / k) := by omega
        generalize N / k = a at hm
        match a, hm with
        | 0, hm => omega
        | 1, hm => omega
        | a + 2, hm => omega
      have ha2 : N / k ≤ N := Nat.div_le_self _ _
      have hok := List.all_eq_true.mp all_okQ ((N / k : Nat) : Int) (mem_rng.mpr ⟨by omega, by omega⟩)
      have hne : dvs ((N / k : Nat) : Int) ≠ [] := fun z => by unfold okQ at hok; rw [z] at hok; cases hok
      obtain ⟨q, l, hql⟩ := List.exists_cons_of_ne_nil hne
      have hqm : q ∈ dvs ((N / k : Nat) : Int) := by rw [hql]; exact List.mem_cons_self
      obtain ⟨⟨q1, q2⟩, q3, q4⟩ := mem_dvs.mp hqm
      obtain ⟨p, rfl⟩ : ∃ p : Nat, q = p := ⟨q.toNat, by omega⟩
      have p3 : (N / k) % p = 0 := by
        have := q3
        rw [← Int.natCast_emod] at this
        exact_mod_cast this
      have e1 : N / k = p * (N / k / p) := by have := Nat.div_add_mod (N / k) p; omega
      have e2 : N = k * (N / k) := by omega
      have e3 : N = p * (k * (N / k / p)) := by
        rw [Nat.mul_left_comm, ← e1]; exact e2
      have hdvd : N % p = 0 := by rw [e3]; exact Nat.mul_mod_right _ _
      have hqN : (p : Int) ∈ dvs (N : Int) := mem_dvs.mpr ⟨⟨q1, by omega⟩, by rw [← Int.natCast_emod, hdvd]; rfl, q4⟩
      refine hq _ hqN ?_
      have e4 : ((N : Int) / (p : Int)).toNat = k * (N / k / p) := by
        rw [← Int.natCast_ediv, Int.toNat_natCast]
        conv => lhs; rw [e3]
        exact Nat.mul_div_cancel_left _ (by omega)
      rw [e4]
      exact PP_mul hk _
    · exact ih (N % k) hlt (by omega) (by omega) hb
theorem luc_iff {r : Int} {N : Nat} (h1 : 1 ≤ N) (h2 : N ≤ 200) : ordC r ((N : Int) + 1) = N ↔ PP r ((N : Int) + 1) N ∧ ∀ q ∈ dvs (N : Int), ¬ PP r ((N : Int) + 1) ((N : Int) / q).toNat := by
  rw [ordC_spec h1]
  refine ⟨fun ⟨a, b⟩ => ⟨a, fun q hq => ?_⟩, fun ⟨a, b⟩ => ⟨a, luc_min h1 h2 a b⟩⟩
  obtain ⟨⟨q1, q2⟩, q3, q4⟩ := mem_dvs.mp hq
  obtain ⟨p, rfl⟩ : ∃ p : Nat, q = p := ⟨q.toNat, by omega⟩
  rw [← Int.natCast_ediv, Int.toNat_natCast]
  exact b _ (Nat.div_pos (by omega) (by omega)) (Nat.div_lt_self (by omega) (by omega))
end K33

set_option Elab.async false
set_option linter.all false
set_option maxRecDepth 100000
namespace K33
open PySem PySem.Spec PyProof.Rows L2 Kw
/-! ### lists of ints, told empty or not -/
theorem pyWs_ints (f : Nat → Option PyData) : ∀ l : List Int, pyWs f (l.map D.int) = some (l.map PyData.int)
  | [] => rfl
  | a :: l => by
    have := pyWs_ints f l
    simp only [List.map_cons, pyWs, pyW, this]
theorem canLay_ints : ∀ l : List Int, PyData.canLayAll0 (l.map PyData.int) = true
  | [] => rfl
  | a :: l => by
    have := canLay_ints l
    simp only [List.map_cons, PyData.canLayAll0, PyData.canLay0, this, Bool.and_self]
theorem depth_ints : ∀ l : List Int, PyData.depthAll (l.map PyData.int) ≤ 1
  | [] => by decide
  | a :: l => by
    have := depth_ints l
    simp only [List.map_cons, PyData.depthAll, PyData.depth]
    omega
theorem shaped_ints (l : List Int) : SeqAt.shaped (.list (l.map PyData.int)) = true := by
  have h1 := canLay_ints l
  have h2 := depth_ints l
  unfold SeqAt.shaped
  rw [Bool.and_eq_true]
  refine ⟨by simpa only [PyData.canLay0] using h1, ?_⟩
  rw [decide_eq_true_eq]
  simp only [PyData.depth]
  omega
theorem eqD_nil (l : List Int) (μ : Mem) : eqD (.lst (l.map D.int)) (.lst []) μ = some l.isEmpty := by
  unfold eqD pyOf
  simp only [pyW, pyWs_ints, pyWs]
  rw [if_pos (by rw [shaped_ints]; rfl)]
  cases l <;> rfl
theorem gEq_nil (l : List Int) (μ : Mem) : gEq (.lst (l.map D.int)) (.lst []) μ = some (.bl l.isEmpty) := by unfold gEq; rw [eqD_nil]
theorem gNe_nil (l : List Int) (μ : Mem) : gNe (.lst (l.map D.int)) (.lst []) μ = some (.bl !l.isEmpty) := by unfold gNe; rw [eqD_nil]
theorem gLst0 (μ : Mem) : gLstD [] μ = some (.lst []) := rfl
theorem range2_run {mr : AM} {δ : Sv} {μ μ1 : Mem} {i j : Int} (h : mr δ μ = .ok [.int i, .int j] μ1) (h1 : -1000 ≤ i) (h2 : i ≤ 1000000) (h3 : -1000 ≤ j) (h4 : j ≤ 1000000) : iRange2 mr δ μ = .ok ((rng i j).map D.int) μ1 := by
  unfold iRange2 rng
  rw [h]
  simp only [bind_ok]
  rw [if_pos (by omega)]
  simp [List.map_map]
theorem rng_len (i j : Int) : (rng i j).length = (j - i).toNat := by simp [rng]
theorem sz {l : List Int} (h : l.length ≤ 1000000) : l.length ≤ sizeLine := by show _ ≤ 2 ^ 24; omega
/-! ### is_prime, divisors -/
theorem isprime_ok (n : Int) (h0 : 0 ≤ n) (h1 : n ≤ 100000) : f__law_is_prime [.int n] [] = .ok (.bl (prB n)) [] := by
  have hr := range2_run (mr := aCons (eC (.int 2)) (aCons (eVar 0) aNil)) (δ := [some (.int n), none]) (μ := []) (i := 2) (j := n) rfl (by omega) (by omega) (by omega) (by omega)
  have hl := lcL_ints (g := gNm 1) (mt := tAndM (tBl (e2 gLe (e2 gMul (eVar 1) (eVar 1)) (eVar 0))) (tBl (e2 gEq (e2 gMod (eAs gInt (aCons (eVar 0) aNil)) (eVar 1)) (eC (.int 0))))) (me := eVar 1) (δ := [some (.int n), none]) (μ := []) (is := rng 2 n)
    (t := fun d => decide (d * d ≤ n) && n % d == 0) (f := D.int) (fun d hd => by
      have hp := mem_rng.mp hd
      refine ⟨[some (.int n), some (.int d)], rfl, ?_, fun _ => rfl⟩
      by_cases hdd : d * d ≤ n <;> simp [eVar, gMul_r (i := d) (j := d) (by omega) (by omega), hdd, gMod_int (show 0 < d by omega)])
  have hs : ((rng 2 n).filter fun d => decide (d * d ≤ n) && n % d == 0).length ≤ sizeLine := sz (Nat.le_trans (List.length_filter_le _ _) (by rw [rng_len]; omega))
  unfold f__law_is_prime bodyM m__law_is_prime
  by_cases h : 1 < n
  · simp [eVar, h, hr, wipeD, hl, hs, gLst0, gEq_nil, prB]
  · simp [eVar, h, prB]
theorem divisors_ok (n : Int) (h0 : 0 ≤ n) (h1 : n ≤ 10000) : f__law_divisors [.int n] [] = .ok (.lst ((dvs n).map D.int)) [] := by
  have hr := range2_run (mr := aCons (eC (.int 2)) (aCons (e2 gAdd (eVar 0) (eC (.int 1))) aNil)) (δ := [some (.int n), none]) (μ := []) (i := 2) (j := n + 1) rfl (by omega) (by omega) (by omega) (by omega)
  have hl := lcL_ints (g := gNm 1) (mt := tAndM (tBl (e2 gEq (e2 gMod (eAs gInt (aCons (eVar 0) aNil)) (eVar 1)) (eC (.int 0)))) (tTru (eCallP f__law_is_prime (aCons (eVar 1) aNil)))) (me := eVar 1) (δ := [some (.int n), none]) (μ := []) (is := rng 2 (n + 1))
    (t := fun d => n % d == 0 && prB d) (f := D.int) (fun d hd => by
      have hp := mem_rng.mp hd
      refine ⟨[some (.int n), some (.int d)], rfl, ?_, fun _ => rfl⟩
      have hc := callP_ok (μ := []) (isprime_ok d (by omega) (by omega)) rfl rfl
      by_cases hdd : n % d = 0 <;> simp [eVar, hdd, gMod_int (show 0 < d by omega), hc])
  have hs : ((rng 2 (n + 1)).filter fun d => n % d == 0 && prB d).length ≤ sizeLine := sz (Nat.le_trans (List.length_filter_le _ _) (by rw [rng_len]; omega))
  unfold f__law_divisors bodyM m__law_divisors
  simp [hr, wipeD, hl, hs, dvs]
/-! ### powers -/
theorem rng_cons {i j : Int} (h : i < j) : rng i j = i :: rng (i + 1) j := by
  unfold rng
  obtain ⟨m, hm⟩ : ∃ m, (j - i).toNat = m + 1 := ⟨(j - i).toNat - 1, by omega⟩
  rw [hm, show (j - (i + 1)).toNat = m from by omega, List.range_succ_eq_map]
  simp [List.map_map]
  intro a _
  omega
theorem rng_nil {i j : Int} (h : j ≤ i) : rng i j = [] := by
  unfold rng
  rw [show (j - i).toNat = 0 from by omega]
  rfl
def wbody : SM := (sSeq (sIf (tBl (e2 gEq (eVar 2) (e2 gMod (eAs gInt (aCons (eC (.int 1)) aNil)) (eVar 1)))) (sRet (eVar 3)) sNext) (sAsg (e2 gMod (eAs gInt (aCons (e2 gMul (eVar 2) (eVar 0)) aNil)) (eVar 1)) (gNm 2)))
theorem wloop {r n : Int} (hn : 0 < n) (hn2 : n ≤ 1000000) : ∀ (f : Nat) (i here : Int) (o : Option D), 1 ≤ i → 0 ≤ here → here < n →
    (ordR r n f i here ≠ 0 → loopS (gNm 3) wbody ((rng i (i + f)).map D.int) [some (.int r), some (.int n), some (.int here), o] [] = .ret (.int (ordR r n f i here)) []) ∧
    (ordR r n f i here = 0 → ∃ δ, loopS (gNm 3) wbody ((rng i (i + f)).map D.int) [some (.int r), some (.int n), some (.int here), o] [] = .nx δ [])
  | 0, i, here, o, _, _, _ => by
    rw [rng_nil (by omega)]
    exact ⟨fun h => absurd rfl h, fun _ => ⟨_, rfl⟩⟩
  | f + 1, i, here, o, hi, h0, h1 => by
    rw [rng_cons (by omega), List.map_cons]
    have m1 := gMod_int (μ := []) (i := 1) hn
    by_cases h : here = 1 % n
    · have e : ordR r n (f + 1) i here = i := by unfold ordR; rw [if_pos h]
      rw [e]
      refine ⟨fun _ => ?_, fun z => by omega⟩
      unfold loopS wbody
      simp [eVar, m1, ← h]
    · have e : ordR r n (f + 1) i here = ordR r n f (i + 1) (here * r % n) := by conv => lhs; unfold ordR; rw [if_neg h]
      rw [e]
      have ih := wloop (r := r) hn hn2 f (i + 1) (here * r % n) (some (.int i)) (by omega) (Int.emod_nonneg _ (by omega)) (Int.emod_lt_of_pos _ hn)
      rw [show i + 1 + (f : Int) = i + ((f + 1 : Nat) : Int) from by omega] at ih
      have hm := gMul_l (μ := []) (i := here) (j := r) (by omega) (by omega)
      have hd := gMod_int (μ := []) (i := here * r) hn
      have step : ∀ X, loopS (gNm 3) wbody (D.int i :: X) [some (.int r), some (.int n), some (.int here), o] [] = loopS (gNm 3) wbody X [some (.int r), some (.int n), some (.int (here * r % n)), some (.int i)] [] := fun X => by
        refine loopS_nx (δ1 := [some (.int r), some (.int n), some (.int here), some (.int i)]) (μ1 := []) rfl ?_
        unfold wbody
        simp [eVar, m1, h, hm, hd]
      rw [step]
      exact ih
theorem powers_ok {r n : Int} (hn : 1 < n) (hn2 : n ≤ 10000) : f__law_powers [.int r, .int n] [] = .ok (.int (ordC r n)) [] := by
  have hr := range2_run (mr := aCons (eC (.int 1)) (aCons (eVar 1) aNil)) (δ := [some (.int r), some (.int n), some (.int (r % n)), none]) (μ := []) (i := 1) (j := n) rfl (by omega) (by omega) (by omega) (by omega)
  obtain ⟨w1, w2⟩ := wloop (r := r) (n := n) (by omega) (by omega) (n - 1).toNat 1 (r % n) none (by omega) (Int.emod_nonneg _ (by omega)) (Int.emod_lt_of_pos _ (by omega))
  rw [show (1 : Int) + ((n - 1).toNat : Int) = n from by omega] at w1 w2
  have md := gMod_int (μ := []) (i := r) (show 0 < n by omega)
  rw [show ordR r n (n - 1).toNat 1 (r % n) = ordC r n from rfl] at w1 w2
  unfold f__law_powers bodyM m__law_powers
  by_cases h : ordC r n = 0
  · obtain ⟨δ, e⟩ := w2 h
    unfold wbody at e
    simp [eVar, md, hr, e, h]
  · have e := w1 h
    unfold wbody at e
    simp [eVar, md, hr, e]
end K33

set_option Elab.async false
set_option linter.all false
set_option maxRecDepth 100000
namespace K33
open PySem PySem.Spec PyProof.Rows L2 Kw
/-! ### what holds of each number -/
section
variable {n root : Int}
theorem okP_at (h1 : 2 ≤ n) (h2 : n < 202) : okP n = true := List.all_eq_true.mp all_okP n (mem_rng.mpr ⟨h1, h2⟩)
theorem okP_pl (h1 : 2 ≤ n) (h2 : n < 202) : (dvs (n - 1)).all pl = true := by
  have h := okP_at h1 h2
  unfold okP at h
  simp only [Bool.and_eq_true] at h
  exact h.1.1.1.1.1
theorem okP_len (h1 : 2 ≤ n) (h2 : n < 202) : (dvs (n - 1)).length ≤ 10 := by
  have h := okP_at h1 h2
  unfold okP at h
  simp only [Bool.and_eq_true, decide_eq_true_eq] at h
  exact h.1.1.1.1.2
theorem okP_rest (h1 : 2 ≤ n) (h2 : n < 202) : restL (dvs (n - 1)) (n - 1) = some (some 1) := by
  have h := okP_at h1 h2
  unfold okP at h
  simp only [Bool.and_eq_true, beq_iff_eq] at h
  exact h.1.1.1.2
theorem okP_rev (h1 : 2 ≤ n) (h2 : n < 202) : restL (dvs (n - 1)).reverse (n - 1) = some (some 1) := by
  have h := okP_at h1 h2
  unfold okP at h
  simp only [Bool.and_eq_true, beq_iff_eq] at h
  exact h.1.1.2
theorem okP_less (h1 : 2 ≤ n) (h2 : n < 202) {i : Nat} (hi : i < (dvs (n - 1)).length) : phC n root ((dvs (n - 1)).eraseIdx i) = some false := by
  have h := okP_at h1 h2
  unfold okP at h
  simp only [Bool.and_eq_true] at h
  have h := List.all_eq_true.mp h.1.2 i (List.mem_range.mpr hi)
  unfold phC
  split
  · cases hr : restL ((dvs (n - 1)).eraseIdx i) (n - 1) with
    | none => rw [hr] at h; cases h
    | some o =>
      rw [hr] at h
      cases o with
      | none => rfl
      | some r =>
        have hr1 : r ≠ 1 := by simpa using h
        simp only
        rw [if_neg fun z => hr1 z.1]
  · rfl
theorem okP_more (h1 : 2 ≤ n) (h2 : n < 202) {m : Int} (hm : m ∈ ([2, 3, 5, 7, 11, 13, 4, 9, 1, 0] : List Int)) (hn : m ∉ dvs (n - 1)) : phC n root (dvs (n - 1) ++ [m]) = some false := by
  have h := okP_at h1 h2
  unfold okP at h
  simp only [Bool.and_eq_true] at h
  have h := List.all_eq_true.mp h.2 m hm
  have hc : (dvs (n - 1)).contains m = false := by
    cases z : (dvs (n - 1)).contains m with
    | false => rfl
    | true => exact absurd (by simpa using z) hn
  rw [hc, Bool.false_or, Bool.or_eq_true] at h
  unfold phC
  split
  · next hp =>
    rcases h with h | h
    · exfalso
      have := hp.2.2
      rw [List.all_append, Bool.and_eq_true] at this
      have h3 : pl m = true := by simpa using this.2
      rw [h3] at h
      cases h
    · cases hr : restL (dvs (n - 1) ++ [m]) (n - 1) with
      | none => rw [hr] at h; cases h
      | some o =>
        rw [hr] at h
        cases o with
        | none => rfl
        | some r =>
          have hr1 : r ≠ 1 := by simpa using h
          simp only
          rw [if_neg fun z => hr1 z.1]
  · rfl
/-- the order, told by the primes -/
theorem luc_all (h1 : 2 ≤ n) (h2 : n < 202) : (pw root (n - 1) n = 1 % n ∧ ∀ q ∈ dvs (n - 1), pw root ((n - 1) / q) n ≠ 1) ↔ ordC root n = n - 1 := by
  obtain ⟨N, hN⟩ : ∃ N : Nat, n = (N : Int) + 1 := ⟨(n - 1).toNat, by omega⟩
  subst hN
  have e : ((N : Int) + 1 - 1) = N := by omega
  rw [e]
  have h := luc_iff (r := root) (N := N) (by omega) (by omega)
  have one : (1 : Int) % ((N : Int) + 1) = 1 := Int.emod_eq_of_lt (by omega) (by omega)
  rw [h]
  unfold pw PP
  rw [one, Int.toNat_natCast]
theorem ph_val (h1 : 2 ≤ n) (h2 : n < 202) (r0 : 1 ≤ root) (r1 : root < n) {ps : List Int} (hps : ps = dvs (n - 1) ∨ ps = (dvs (n - 1)).reverse) : phC n root ps = some (ordC root n == n - 1) := by
  have hl := luc_all (root := root) h1 h2
  have hall : ∀ f : Int → Bool, ps.all f = (dvs (n - 1)).all f := fun f => by
    rcases hps with rfl | rfl
    · rfl
    · exact List.all_reverse
  have hrest : restL ps (n - 1) = some (some 1) := by
    rcases hps with rfl | rfl
    · exact okP_rest h1 h2
    · exact okP_rev h1 h2
  unfold phC
  rw [if_pos ⟨⟨by omega, r1⟩, by omega, by rw [hall]; exact okP_pl h1 h2⟩, hrest]
  simp only [true_and]
  by_cases hw : pw root (n - 1) n = 1 % n
  · rw [if_pos hw, hall]
    congr 1
    by_cases ho : ordC root n = n - 1
    · rw [beq_iff_eq.mpr ho]
      exact List.all_eq_true.mpr fun q hq => by simpa using (hl.mpr ho).2 q hq
    · rw [Bool.eq_false_iff.mpr (fun z => ho (beq_iff_eq.mp z))]
      refine Bool.eq_false_iff.mpr fun z => ho (hl.mp ⟨hw, fun q hq => ?_⟩)
      simpa using List.all_eq_true.mp z q hq
  · rw [if_neg hw]
    congr 1
    exact (Bool.eq_false_iff.mpr fun z => hw (hl.mpr (beq_iff_eq.mp z)).1).symm
theorem lucN_iff {n r : Nat} (h1 : 2 ≤ n) (h2 : n < 202) : lucN n r = true ↔ ordC r n = (n : Int) - 1 := by
  have hl := luc_all (n := n) (root := r) (by omega) (by omega)
  rw [← hl]
  have cast : ∀ k : Nat, pw (r : Int) (k : Int) (n : Int) = ((r ^ k % n : Nat) : Int) := fun k => by
    unfold pw
    rw [Int.toNat_natCast]
    push_cast
    rfl
  have one : 1 % n = 1 := Nat.mod_eq_of_lt (by omega)
  unfold lucN
  rw [Bool.and_eq_true, beq_iff_eq, List.all_eq_true]
  have e : ((n : Int) - 1) = ((n - 1 : Nat) : Int) := by omega
  rw [e, cast]
  constructor
  · rintro ⟨a, b⟩
    refine ⟨by rw [a, one]; rw [Int.emod_eq_of_lt (by omega) (by omega)]; rfl, fun q hq => ?_⟩
    obtain ⟨⟨q1, q2⟩, _⟩ := mem_dvs.mp hq
    obtain ⟨p, rfl⟩ : ∃ p : Nat, q = p := ⟨q.toNat, by omega⟩
    have := b _ hq
    rw [← Int.natCast_ediv, cast]
    rw [Int.toNat_natCast] at this
    have h3 : r ^ ((n - 1) / p) % n ≠ 1 := by simpa using this
    omega
  · rintro ⟨a, b⟩
    refine ⟨?_, fun q hq => ?_⟩
    · rw [Int.emod_eq_of_lt (by omega) (by omega)] at a
      rw [one]
      omega
    · obtain ⟨⟨q1, q2⟩, _⟩ := mem_dvs.mp hq
      obtain ⟨p, rfl⟩ : ∃ p : Nat, q = p := ⟨q.toNat, by omega⟩
      have := b _ hq
      rw [← Int.natCast_ediv, cast] at this
      rw [Int.toNat_natCast]
      have h3 : r ^ ((n - 1) / p) % n ≠ 1 := by omega
      simpa using h3
def som (n : Int) : List Int := (rng 1 n).filter fun r => ordC r n == n - 1
theorem som_prime (h1 : 2 ≤ n) (h2 : n < 202) : (som n).isEmpty = !prB n := by
  obtain ⟨N, rfl⟩ : ∃ N : Nat, n = N := ⟨n.toNat, by omega⟩
  have ho := List.all_eq_true.mp all_okO (N - 2) (List.mem_range.mpr (by omega))
  rw [show N - 2 + 2 = N from by omega] at ho
  unfold okO at ho
  rw [beq_iff_eq] at ho
  rw [← ho]
  cases hs : som (N : Int) with
  | nil =>
    have : ((List.range (N - 1)).any fun r => lucN N (r + 1)) = false := by
      refine Bool.eq_false_iff.mpr fun z => ?_
      obtain ⟨r, hr, hl⟩ := List.any_eq_true.mp z
      rw [List.mem_range] at hr
      have h3 := (lucN_iff (by omega) (by omega)).mp hl
      have hm : ((r + 1 : Nat) : Int) ∈ som (N : Int) := List.mem_filter.mpr ⟨mem_rng.mpr ⟨by omega, by omega⟩, by simpa using h3⟩
      rw [hs] at hm
      cases hm
    rw [this]
    rfl
  | cons a l =>
    have hm : a ∈ som (N : Int) := by rw [hs]; exact List.mem_cons_self
    obtain ⟨h3, h4⟩ := List.mem_filter.mp hm
    have h3 := mem_rng.mp h3
    obtain ⟨r, rfl⟩ : ∃ r : Nat, a = ((r + 1 : Nat) : Int) := ⟨(a - 1).toNat, by omega⟩
    have : ((List.range (N - 1)).any fun r => lucN N (r + 1)) = true := List.any_eq_true.mpr ⟨r, List.mem_range.mpr (by omega), (lucN_iff (by omega) (by omega)).mpr (by simpa using h4)⟩
    rw [this]
    rfl
theorem som_mem {r : Int} (h : r ∈ som n) : 1 ≤ r ∧ r < n := mem_rng.mp (List.mem_filter.mp h).1
theorem som_len (h2 : n < 202) : (som n).length ≤ 300 := Nat.le_trans (List.length_filter_le _ _) (by rw [rng_len]; omega)
end
end K33

set_option Elab.async false
set_option linter.all false
set_option maxRecDepth 100000
namespace K33
open PySem PySem.Spec PyProof.Rows L2 Kw
/-! ### papers that are none -/
theorem ph_none {n : Int} {y : D} (h : f_is_sequence [y] [] = .ok (.bl false) []) (hl : locBs false 0 [y] = true) (hv : ∀ a δ μ, eVar 1 (a :: some y :: δ) μ = .ok y μ) : f_prime_holds [.int n, y] [] = .ok (.bl false) [] := by
  have hc := callP_ok (μ := []) h hl rfl
  unfold f_prime_holds bodyM m_prime_holds
  simp [hv, hc]
theorem ph_len {n : Int} {xs : List D} (h : xs.length ≠ 2) (hl : locBs false 0 xs = true) : f_prime_holds [.int n, .tup xs] [] = .ok (.bl false) [] := by
  have hc := callP_ok (μ := []) (m := f_is_sequence) (ds := [.tup xs]) (d := .bl true) (μ' := []) rfl (by simp [locBs, locB, hl]) rfl
  have h' : ¬ ((xs.length : Int) = 2) := by omega
  unfold f_prime_holds bodyM m_prime_holds
  simp [eVar, hc, gLen, seqOf, h']
theorem ph_true {n : Int} {ps : List Int} : f_prime_holds [.int n, .tup [.bl true, .lst (ps.map D.int)]] [] = .ok (.bl false) [] := by
  have hc := callP_ok (μ := []) (m := f_is_sequence) (ds := [.tup [.bl true, .lst (ps.map D.int)]]) (d := .bl true) (μ' := []) rfl (by simp [locBs, locB, locBs_ints]) rfl
  have hc2 := callP_ok (μ := []) (m := f_is_sequence) (ds := [.lst (ps.map D.int)]) (d := .bl true) (μ' := []) rfl (by simp [locBs, locB, locBs_ints]) rfl
  have hb := callP_ok (μ := []) (is_below_no (d := .bl true) (m := n) (is_number_no rfl rfl fun _ _ => rfl) rfl fun _ _ => rfl) rfl rfl
  have ix : gIx (.tup [.bl true, .lst (ps.map D.int)]) (.int 1) [] = some (.lst (ps.map D.int)) := rfl
  unfold f_prime_holds bodyM m_prime_holds
  simp [eVar, hc, gLen, seqOf, ix, hc2, gSeq, gsCons, gsNil, hb]
theorem ph_nonp {n : Int} : f_prime_holds [.int n, .tup [.int 1, .non]] [] = .ok (.bl false) [] := by
  have hc := callP_ok (μ := []) (m := f_is_sequence) (ds := [.tup [.int 1, .non]]) (d := .bl true) (μ' := []) rfl rfl rfl
  have hc2 := callP_ok (μ := []) (m := f_is_sequence) (ds := [.non]) (d := .bl false) (μ' := []) rfl rfl rfl
  have ix : gIx (.tup [.int 1, .non]) (.int 1) [] = some .non := rfl
  unfold f_prime_holds bodyM m_prime_holds
  simp [eVar, hc, gLen, seqOf, ix, hc2]
theorem plain_non : f_is_plain_prime [.non] [] = .ok (.bl false) [] := by
  have hb := callP_ok (μ := []) (is_below_no (d := .non) (m := 10000) (is_number_no rfl rfl fun _ _ => rfl) rfl fun _ _ => rfl) rfl rfl
  unfold f_is_plain_prime bodyM m_is_plain_prime
  simp [eVar, hb]
theorem boolsOf_app : ∀ (l : List Bool) (b : Bool), boolsOf (l.map D.bl ++ [.bl b]) = some (l ++ [b])
  | [], b => rfl
  | a :: l, b => by
    have := boolsOf_app l b
    simp [boolsOf, this]
theorem locBs_app (sc : Bool) (k : Nat) : ∀ (l : List Int) (d : D), locBs sc k (l.map D.int ++ [d]) = locB sc k d
  | [], d => by simp [locBs]
  | a :: l, d => by
    have := locBs_app sc k l d
    simp only [List.map_cons, List.cons_append, locBs, locB, this, Bool.true_and]
theorem ph_more_non {n root : Int} {ps : List Int} (hn : 1 < n) (hl : ps.length ≤ 100) : f_prime_holds [.int n, .tup [.int root, .lst (ps.map D.int ++ [.non])]] [] = .ok (.bl false) [] := by
  have hc := callP_ok (μ := []) (m := f_is_sequence) (ds := [.tup [.int root, .lst (ps.map D.int ++ [.non])]]) (d := .bl true) (μ' := []) rfl (by simp [locBs, locB, locBs_app]) rfl
  have hc2 := callP_ok (μ := []) (m := f_is_sequence) (ds := [.lst (ps.map D.int ++ [.non])]) (d := .bl true) (μ' := []) rfl (by simp [locBs, locB, locBs_app]) rfl
  have ix : gIx (.tup [.int root, .lst (ps.map D.int ++ [.non])]) (.int 1) [] = some (.lst (ps.map D.int ++ [.non])) := rfl
  have bl := callP_ok (μ := []) (is_below_int root n) rfl rfl
  have e1 := lcL_pure (g := gNm 5) (mt := tYesM) (me := eCallP f_is_plain_prime (aCons (eVar 5) aNil)) (δ := [some (.int n), some (.tup [.int root, .lst (ps.map D.int ++ [.non])]), some (.int root), some (.lst (ps.map D.int ++ [.non])), none, none]) (μ := []) (items := ps.map D.int ++ [.non]) (t := fun _ => true) (f := fun d => match d with
    | .int q => .bl (pl q)
    | _ => .bl false) (fun d hd => by
    refine ⟨[some (.int n), some (.tup [.int root, .lst (ps.map D.int ++ [.non])]), some (.int root), some (.lst (ps.map D.int ++ [.non])), none, some d], rfl, rfl, fun _ => ?_⟩
    rcases List.mem_append.mp hd with h | h
    · obtain ⟨q, _, rfl⟩ := List.mem_map.mp h
      have := callP_ok (μ := []) (plain_ok q) rfl rfl
      simp [eVar, this]
    · rw [List.mem_singleton] at h
      subst h
      have := callP_ok (μ := []) plain_non rfl rfl
      simp [eVar, this])
  have ft : ∀ l : List D, l.filter (fun _ => true) = l := fun l => by simp
  rw [ft, List.map_append, List.map_map] at e1
  have em : (ps.map ((fun d => match d with
    | .int q => D.bl (pl q)
    | _ => D.bl false) ∘ D.int)) = (ps.map pl).map D.bl := by rw [List.map_map]; rfl
  rw [em] at e1
  have hsz : ((ps.map pl).map D.bl ++ [D.bl false]).length ≤ sizeLine := by show _ ≤ 2 ^ 24; simp; omega
  have hb := boolsOf_app (ps.map pl) false
  simp only [List.map_cons, List.map_nil] at e1
  unfold f_prime_holds bodyM m_prime_holds
  by_cases c0 : 0 ≤ root ∧ root < n
  · by_cases c1 : root = 0
    · subst c1
      simp [eVar, hc, gLen, seqOf, ix, hc2, gSeq, gsCons, gsNil, bl, c0.2]
    · rw [List.map_map] at hb e1 hsz
      have hsz2 : ps.length + 1 ≤ sizeLine := by show _ ≤ 2 ^ 24; omega
      simp [eVar, hc, gLen, seqOf, ix, hc2, gSeq, gsCons, gsNil, bl, c0.1, c0.2, c1, iSeq, seqV, wipeD, e1, hsz2, gAll, lstOf, hb]
  · have bl' : callP f_is_below [.int root, .int n] [] = .ok (.bl false) [] := by
      rw [bl]
      congr 2
      by_cases a : 0 ≤ root <;> by_cases b : root < n <;> simp [a, b] <;> exact c0 ⟨a, b⟩
    simp [eVar, hc, gLen, seqOf, ix, hc2, gSeq, gsCons, gsNil, bl']
/-! ### one turn -/
def it6 : List D := (List.range 6).map fun (k : Nat) => .int (k : Int)
theorem range6 {δ : Sv} {μ : Mem} : iRange1 (aCons (eC (.int 6)) aNil) δ μ = .ok it6 μ := rfl
def it3 : List D := (List.range 3).map fun (k : Nat) => .int (k : Int)
theorem range3 {δ : Sv} {μ : Mem} : iRange1 (aCons (eC (.int 3)) aNil) δ μ = .ok it3 μ := rfl
theorem gLst_ok {xs : List D} {μ : Mem} (h : xs.length ≤ 1000) : gLstD xs μ = some (.lst xs) := if_pos (by show _ ≤ 2 ^ 24; omega)
theorem gTup_ok {xs : List D} {μ : Mem} (h : xs.length ≤ 1000) : gTupD xs μ = some (.tup xs) := if_pos (by show _ ≤ 2 ^ 24; omega)
theorem same_repr (b : Bool) (μ : Mem) : ∃ s, gRepr [.lst [.bl b, .bl b]] μ = some (.str s) ∧ gNe (.str s) (.str s) μ = some (.bl false) := by
  cases b
  · exact ⟨(PyData.list [.bool false, .bool false]).shown, rfl, by kernel_rfl⟩
  · exact ⟨(PyData.list [.bool true, .bool true]).shown, rfl, by kernel_rfl⟩
theorem map_erase : ∀ (l : List Int) (i : Nat), (l.map D.int).eraseIdx i = (l.eraseIdx i).map D.int
  | [], _ => rfl
  | a :: l, 0 => rfl
  | a :: l, i + 1 => by
    have := map_erase l i
    simp [this]
theorem eqF_ints (x : Int) : ∀ l : List Int, ((l.map D.int).any fun z => eqF z (.int x)) = l.contains x
  | [] => rfl
  | a :: l => by
    have := eqF_ints x l
    rw [List.map_cons, List.any_cons, this, List.contains_cons]
    show ((a == x) || _) = ((x == a) || _)
    rw [Bool.beq_comm]
theorem eqF_non : ∀ l : List Int, ((l.map D.int).any fun z => eqF z .non) = false
  | [] => rfl
  | a :: l => by
    have := eqF_non l
    rw [List.map_cons, List.any_cons, this]
    rfl
theorem flat_ints : ∀ l : List Int, (l.map D.int).all flatD = true
  | [] => rfl
  | a :: l => by
    have := flat_ints l
    rw [List.map_cons, List.all_cons, this]
    rfl
theorem nin_int (x : Int) (l : List Int) (μ : Mem) : gNin (.int x) (.lst (l.map D.int)) μ = some (.bl !l.contains x) := by
  unfold gNin gOr2 gNinF inF
  simp only [seqOf, lstOf, flat_ints, flatD, Bool.and_self, if_true, eqF_ints, Option.map_some]
theorem nin_non (l : List Int) (μ : Mem) : gNin .non (.lst (l.map D.int)) μ = some (.bl true) := by
  unfold gNin gOr2 gNinF inF
  simp only [seqOf, lstOf, flat_ints, flatD, Bool.and_self, if_true, eqF_non, Option.map_some, Bool.not_false]
theorem Box.app {μ : Mem} {l : Nat} {b : Ob} (h : Box μ l) : Box (μ ++ [b]) l := by
  obtain ⟨g, x, e, h⟩ := h
  exact ⟨g, x, by rw [List.getElem?_append_left (List.getElem?_eq_some_iff.mp e).1]; exact e, h⟩
theorem Box.set {μ : Mem} {l i : Nat} {b : Ob} (h : Box μ l) (hi : i ≠ l) : Box (μ.set i b) l := by
  obtain ⟨g, x, e, h⟩ := h
  exact ⟨g, x, by rw [List.getElem?_set_ne hi]; exact e, h⟩
theorem Box.lt {μ : Mem} {l : Nat} (h : Box μ l) : l < μ.length := by
  obtain ⟨g, x, e, h⟩ := h
  exact (List.getElem?_eq_some_iff.mp e).1
theorem cut_none (xs : List D) : Kw.cutD xs none none = xs := by
  unfold Kw.cutD
  simp [HT.sIx]
section
variable {ns : List Int} {n k : Int} {l : Nat} (h1 : 2 ≤ n) (h2 : n < 202) (a7 a8 a9 a10 a11 a12 a13 a14 a15 a16 a17 : Option D)
/-- the slots at a turn -/
abbrev sl (ns : List Int) (k : Int) (l : Nat) (n : Int) (a7 a8 a9 a10 a11 a12 a13 a14 a15 a16 a17 : Option D) : Sv := [some (.scr (ns.map D.int)), some (.int k), some (.loc l), some (.int n), some (.lst ((dvs (n - 1)).map D.int)), some (.bl (prB n)), some (.lst ((som n).map D.int)), a7, a8, a9, a10, a11, a12, a13, a14, a15, a16, a17]
include h1 h2
theorem turn1 {μ : Mem} (hb : Box μ l) : ∃ root μ', sAsg (eIfM (tAndM (tBl (e2 gNe (eVar 6) (eAs gLstD aNil))) (tBl (e2 gEq (eCallM f__law_take (aCons (eVar 2) (aCons (eC (.int 2)) aNil))) (eC (.int 0))))) (eCallM f__law_pick (aCons (eVar 2) (aCons (eVar 6) aNil))) (e2 gAdd (eC (.int 1)) (eCallM f__law_take (aCons (eVar 2) (aCons (e2 Kw.gSub (eVar 3) (eC (.int 1))) aNil))))) (gNm 8) (sl ns k l n a7 a8 a9 a10 a11 a12 a13 a14 a15 a16 a17) μ = .nx (sl ns k l n a7 (some (.int root)) a9 a10 a11 a12 a13 a14 a15 a16 a17) μ' ∧ 1 ≤ root ∧ root < n ∧ Box μ' l := by
  by_cases hs : (som n).isEmpty = true
  · obtain ⟨r, μ', ht, r0, r1, hb', _⟩ := takeM (m := n - 1) hb (by omega) (by omega)
    refine ⟨1 + r, μ', ?_, by omega, by omega, hb'⟩
    simp [eVar, gLst0, gNe_nil, hs, ht]
  · obtain ⟨r, μ1, ht, r0, r1, hb1, _⟩ := takeM (m := 2) hb (by omega) (by omega)
    have hs' : (som n).isEmpty = false := by simpa using hs
    by_cases hr : r = 0
    · have hne : (som n).map D.int ≠ [] := by
        intro z
        rw [List.map_eq_nil_iff] at z
        rw [z] at hs'
        cases hs'
      obtain ⟨y, μ', hp, hy, hb', _⟩ := pickM hb1 hne (by rw [List.length_map]; have := som_len h2; omega)
      obtain ⟨z, hz, rfl⟩ := List.mem_map.mp hy
      have := som_mem hz
      refine ⟨z, μ', ?_, this.1, this.2, hb'⟩
      simp [eVar, gLst0, gNe_nil, hs', ht, hr, hp]
    · obtain ⟨t, μ', ht2, t0, t1, hb', _⟩ := takeM (m := n - 1) hb1 (by omega) (by omega)
      refine ⟨1 + t, μ', ?_, by omega, by omega, hb'⟩
      simp [eVar, gLst0, gNe_nil, hs', ht, hr, ht2]
end
/-! ### the end of the law: no number is open -/
theorem tail_ok (a0 a1 a2 a3 a4 a5 a6 a7 a8 a9 a10 a11 a12 a13 a14 a15 a16 a17 : Option D) (μ : Mem) : ∃ μ', (match (sSeq (sAsg (eCall0 f_prime_paper) (gNm 14)) (sIf (tOrM (tNotM (tTru (e1 (gIsi ["tuple"]) (eVar 14)))) (tOrM (tNotM (tTru (e1 (gIsi ["tuple"]) (e2 gIx (eVar 14) (eC (.int 1)))))) (tBl (e2 gIsNot (eCallP f_prime_holds (aCons (eC d_PRIME) (aCons (eVar 14) aNil))) (eC (.bl true)))))) (sRet (eC (.bl false))) sNext)) [a0, a1, a2, a3, a4, a5, a6, a7, a8, a9, a10, a11, a12, a13, a14, a15, a16, a17] μ with
  | .nx δ μ => SOut.nx δ μ
  | o => o) = .nx [a0, a1, a2, a3, a4, a5, a6, a7, a8, a9, a10, a11, a12, a13, some (.tup [d_ROOT, d_DIVISORS]), a15, a16, a17] μ' := ⟨μ, by kernel_rfl⟩
end K33

set_option Elab.async false
set_option linter.all false
set_option maxRecDepth 100000
namespace K33
open PySem PySem.Spec PyProof.Rows L2 Kw
section
variable {ns : List Int} {n k : Int} {l : Nat} (h1 : 2 ≤ n) (h2 : n < 202) (a7 a8 a9 a10 a11 a12 a13 a14 a15 a16 a17 : Option D)
def Sl (ns : List Int) (k : Int) (l : Nat) (n : Int) (δ : Sv) (μ : Mem) : Prop := (∃ b7 b8 b9 b10 b11 b12 b13 b14 b15 b16 b17, δ = sl ns k l n b7 b8 b9 b10 b11 b12 b13 b14 b15 b16 b17) ∧ Box μ l
include h1 h2
/-- a paper that must show nothing, handed with the root -/
theorem more_ok {μ : Mem} (hb : Box μ l) {root : Int} (r0 : 1 ≤ root) (r1 : root < n) : ∃ δ2 μ2, (sSeq (sAsg (eCallM f__law_pick (aCons (eVar 2) (aCons (eLc (iSeq (eAs gLstD (aCons (eC (.int 2)) (aCons (eC (.int 3)) (aCons (eC (.int 5)) (aCons (eC (.int 7)) (aCons (eC (.int 11)) (aCons (eC (.int 13)) (aCons (eC (.int 4)) (aCons (eC (.int 9)) (aCons (eC (.int 1)) (aCons (eC (.int 0)) (aCons (eC .non) aNil))))))))))))) (gNm 17) (tBl (e2 gNin (eVar 17) (eVar 4))) (eVar 17) [17]) aNil))) (gNm 12)) (sIf (tBl (e2 gIsNot (eCallP f_prime_holds (aCons (eVar 3) (aCons (eAs gTupD (aCons (eVar 8) (aCons (e2 gAdd (eVar 4) (eAs gLstD (aCons (eVar 12) aNil))) aNil))) aNil))) (eC (.bl false)))) (sRet (eC (.bl false))) sNext)) (sl ns k l n a7 (some (.int root)) a9 a10 a11 a12 a13 a14 a15 a16 a17) μ = .nx δ2 μ2 ∧ Sl ns k l n δ2 μ2 := by
  obtain ⟨P, hP⟩ : ∃ P, P = dvs (n - 1) := ⟨_, rfl⟩
  have hlen := okP_len h1 h2
  rw [← hP] at hlen
  let t : D → Bool := fun d => match d with
    | .int x => !P.contains x
    | _ => true
  have hl := lcL_pure (g := gNm 17) (mt := tBl (e2 gNin (eVar 17) (eVar 4))) (me := eVar 17) (δ := sl ns k l n a7 (some (.int root)) a9 a10 a11 a12 a13 a14 a15 a16 none) (μ := μ) (items := [.int 2, .int 3, .int 5, .int 7, .int 11, .int 13, .int 4, .int 9, .int 1, .int 0, .non]) (t := t) (f := fun d => d) (fun d hd => by
    refine ⟨sl ns k l n a7 (some (.int root)) a9 a10 a11 a12 a13 a14 a15 a16 (some d), rfl, ?_, ?_⟩
    · have hd2 : (∃ x, d = .int x) ∨ d = .non := by
        simp only [List.mem_cons, List.mem_nil_iff, or_false] at hd
        rcases hd with h | h | h | h | h | h | h | h | h | h | h <;> subst h <;> first | exact .inr rfl | exact .inl ⟨_, rfl⟩
      rcases hd2 with ⟨x, rfl⟩ | rfl
      · simp [eVar, nin_int, t, ← hP]
      · simp [eVar, nin_non, t]
    · intro _
      have hd2 : (∃ x, d = .int x) ∨ d = .non := by
        simp only [List.mem_cons, List.mem_nil_iff, or_false] at hd
        rcases hd with h | h | h | h | h | h | h | h | h | h | h <;> subst h <;> first | exact .inr rfl | exact .inl ⟨_, rfl⟩
      rcases hd2 with ⟨x, rfl⟩ | rfl <;> rfl)
  rw [List.map_id'] at hl
  obtain ⟨F, hF⟩ : ∃ F, F = List.filter t [.int 2, .int 3, .int 5, .int 7, .int 11, .int 13, .int 4, .int 9, .int 1, .int 0, .non] := ⟨_, rfl⟩
  have hlF : F.length ≤ 11 := by rw [hF]; exact List.length_filter_le _ _
  have hne : F ≠ [] := by
    intro z
    have : D.non ∈ F := by rw [hF]; exact List.mem_filter.mpr ⟨by simp, rfl⟩
    rw [z] at this
    cases this
  rw [← hF] at hl
  obtain ⟨y, μ2, hp, hy, hb2, _⟩ := pickM hb hne (by omega)
  have hsz : F.length ≤ sizeLine := by show _ ≤ 2 ^ 24; omega
  rw [hF] at hy
  obtain ⟨hy1, hy2⟩ := List.mem_filter.mp hy
  have hph : callP f_prime_holds [.int n, .tup [.int root, .lst (P.map D.int ++ [y])]] μ2 = .ok (.bl false) μ2 ∧ (∀ δ μ b0 b1 b2 b3 b4 b5 b6 b7 b8 b9 b10 b11, eVar 12 (b0 :: b1 :: b2 :: b3 :: b4 :: b5 :: b6 :: b7 :: b8 :: b9 :: b10 :: b11 :: some y :: δ) μ = .ok y μ) := by
    have hd2 : (∃ x, y = .int x ∧ x ∈ ([2, 3, 5, 7, 11, 13, 4, 9, 1, 0] : List Int)) ∨ y = .non := by
      simp only [List.mem_cons, List.mem_nil_iff, or_false] at hy1
      rcases hy1 with h | h | h | h | h | h | h | h | h | h | h <;> subst h <;> first | exact .inr rfl | exact .inl ⟨_, rfl, by simp⟩
    rcases hd2 with ⟨x, rfl, hx⟩ | rfl
    · have hn : x ∉ dvs (n - 1) := by
        have : P.contains x = false := by simpa [t] using hy2
        rw [← hP]
        simpa using this
      have := ph_ok (n := n) (root := root) (ps := dvs (n - 1) ++ [x]) (v := .tup [.int root, .lst ((dvs (n - 1) ++ [x]).map D.int)]) (p := .lst ((dvs (n - 1) ++ [x]).map D.int)) (by omega) (by omega) (.inr rfl) (.inl rfl) (by rw [List.length_append, ← hP]; simp; omega) (okP_more h1 h2 hx hn)
      rw [← hP, List.map_append] at this
      exact ⟨callP_ok this (by simp [locBs, locB, locBs_app]) rfl, fun _ _ _ _ _ _ _ _ _ _ _ _ _ _ => rfl⟩
    · exact ⟨callP_ok (ph_more_non (by omega) (by omega)) (by simp [locBs, locB, locBs_app]) rfl, fun _ _ _ _ _ _ _ _ _ _ _ _ _ _ => rfl⟩
  obtain ⟨hph, hvy⟩ := hph
  refine seq_ex (δ1 := sl ns k l n a7 (some (.int root)) a9 a10 a11 (some y) a13 a14 a15 a16 a17) (μ1 := μ2) ?_ ?_
  · simp [eVar, gLst_ok, iSeq, seqV, wipeD, hl, hsz, hp]
  · refine ⟨sl ns k l n a7 (some (.int root)) a9 a10 a11 (some y) a13 a14 a15 a16 a17, μ2, ?_, ⟨_, _, _, _, _, _, _, _, _, _, _, rfl⟩, hb2⟩
    have hadd : gAdd (.lst (P.map D.int)) (.lst [y]) μ2 = some (.lst (P.map D.int ++ [y])) := by
      have : (P.map D.int).length + [y].length ≤ sizeLine := by show _ ≤ 2 ^ 24; simp; omega
      show (match lstX μ2 (D.lst (P.map D.int)), lstX μ2 (D.lst [y]) with
        | some a, some b => if a.length + b.length ≤ sizeLine then some (D.lst (a ++ b)) else none
        | _, _ => none) = _
      simp only [lstX]
      exact if_pos this
    have v3 : ∀ μ, eVar 3 (sl ns k l n a7 (some (.int root)) a9 a10 a11 (some y) a13 a14 a15 a16 a17) μ = .ok (.int n) μ := fun _ => rfl
    have v8 : ∀ μ, eVar 8 (sl ns k l n a7 (some (.int root)) a9 a10 a11 (some y) a13 a14 a15 a16 a17) μ = .ok (.int root) μ := fun _ => rfl
    have v4 : ∀ μ, eVar 4 (sl ns k l n a7 (some (.int root)) a9 a10 a11 (some y) a13 a14 a15 a16 a17) μ = .ok (.lst (P.map D.int)) μ := fun _ => by rw [hP]; rfl
    simp [v3, v8, v4, hvy, gLst_ok, hadd, gTup_ok, hph]
/-- one divisor less -/
theorem less_ok {μ : Mem} (hb : Box μ l) {root : Int} (r0 : 1 ≤ root) (r1 : root < n) : ∃ b11 μ2, (sIf (tBl (e2 gNe (eVar 4) (eAs gLstD aNil))) (sSeq (sAsg (eNewSl (eVar 4) oNo oNo) (gNm 11)) (sSeq (sDrop (eMtL gPop (eVar 11) (aCons (eCallM f__law_take (aCons (eVar 2) (aCons (eAs gLen (aCons (eVar 11) aNil)) aNil))) aNil))) (sIf (tBl (e2 gIsNot (eCallP f_prime_holds (aCons (eVar 3) (aCons (eAs gTupD (aCons (eVar 8) (aCons (eVar 11) aNil))) aNil))) (eC (.bl false)))) (sRet (eC (.bl false))) sNext))) sNext) (sl ns k l n a7 (some (.int root)) a9 a10 a11 a12 a13 a14 a15 a16 a17) μ = .nx (sl ns k l n a7 (some (.int root)) a9 a10 b11 a12 a13 a14 a15 a16 a17) μ2 ∧ Box μ2 l := by
  obtain ⟨P, hP⟩ : ∃ P, P = dvs (n - 1) := ⟨_, rfl⟩
  have hlen := okP_len h1 h2
  rw [← hP] at hlen
  by_cases hs : P.isEmpty = true
  · refine ⟨a11, μ, ?_, hb⟩
    simp [eVar, gLst0, ← hP, gNe_nil, hs]
  · have hs' : P.isEmpty = false := by simpa using hs
    have hp0 : 0 < P.length := by cases P with
      | nil => cases hs'
      | cons a b => simp
    obtain ⟨μ1, hμ1⟩ : ∃ μ1 : Mem, μ1 = μ ++ [.lst (P.map D.int)] := ⟨_, rfl⟩
    have hb1 : Box μ1 l := by rw [hμ1]; exact Box.app hb
    have hat : μ1[μ.length]? = some (.lst (P.map D.int)) := by rw [hμ1]; simp
    obtain ⟨r, μ2, ht, t0, t1, hb2, st⟩ := takeM (m := P.length) hb1 (by omega) (by omega)
    have hne : μ.length ≠ l := by have := Box.lt hb; omega
    have hat2 : μ2[μ.length]? = some (.lst (P.map D.int)) := by rw [st.2 _ hne]; exact hat
    have hl1 : lstX μ1 (.loc μ.length) = some (P.map D.int) := by simp only [lstX, hat]
    have hlen1 : gLen [.loc μ.length] μ1 = some (.int P.length) := by simp [gLen, hat]
    obtain ⟨i, hi⟩ : ∃ i : Nat, r = (i : Int) := ⟨r.toNat, by omega⟩
    subst hi
    have hi2 : i < P.length := by omega
    have hsq : seqIndex? (i : Int) (P.map D.int).length = some i := by
      have := seqIndex_of (k := (i : Int)) (n := (P.map D.int).length) (by omega) (by rw [List.length_map]; omega)
      simpa using this
    have hget : (P.map D.int)[i]? = some (.int P[i]) := by rw [List.getElem?_map, List.getElem?_eq_getElem hi2]; rfl
    have hpop : gPop (.loc μ.length) [.int (i : Int)] μ2 = some (.int P[i], μ2.set μ.length (.lst ((P.eraseIdx i).map D.int))) := by
      have hb63 : (-9223372036854775808 : Int) ≤ i ∧ (i : Int) < 9223372036854775808 := by omega
      unfold gPop
      simp only [hat2]
      rw [if_pos hb63, hsq]
      simp only [hget, map_erase]
    obtain ⟨μ3, hμ3⟩ : ∃ μ3 : Mem, μ3 = μ2.set μ.length (.lst ((P.eraseIdx i).map D.int)) := ⟨_, rfl⟩
    have hb3 : Box μ3 l := by rw [hμ3]; exact Box.set hb2 hne
    have hlt : μ.length < μ2.length := (List.getElem?_eq_some_iff.mp hat2).1
    have hat3 : μ3[μ.length]? = some (.lst ((P.eraseIdx i).map D.int)) := by rw [hμ3]; exact List.getElem?_set_self hlt
    have hph := ph_ok (n := n) (root := root) (ps := P.eraseIdx i) (v := .tup [.int root, .scr ((P.eraseIdx i).map D.int)]) (p := .scr ((P.eraseIdx i).map D.int)) (by omega) (by omega) (.inr rfl) (.inr (.inr rfl)) (by rw [List.length_eraseIdx]; split <;> omega) (by rw [hP]; exact okP_less h1 h2 (by rw [← hP]; exact hi2))
    have frz : ∀ q : List Int, frzWs (frzL μ3 3) (q.map D.int) = some (q.map D.int) := fun q => by
      induction q with
      | nil => rfl
      | cons a q ih => simp only [List.map_cons, frzWs, frzW, ih]
    have hc : callP f_prime_holds [.int n, .tup [.int root, .loc μ.length]] μ3 = .ok (.bl false) μ3 := by
      refine callP_lent (es := [.int n, .tup [.int root, .scr ((P.eraseIdx i).map D.int)]]) (by simp [locBs, locB]) ?_ hph rfl
      have hf : frzL μ3 4 μ.length = some (.scr ((P.eraseIdx i).map D.int)) := by
        unfold frzL
        simp only [hat3, frz]
      simp only [frzWs, frzW, hf]
    refine ⟨some (.loc μ.length), μ3, ?_, hb3⟩
    rw [hμ3] at hc ⊢
    simp [eVar, gLst0, ← hP, gNe_nil, hs', eNewSl, oNo, lstOf, cut_none, ← hμ1, hl1, hlen1, ht, hpop, gTup_ok, hc]
end
end K33

set_option Elab.async false
set_option linter.all false
set_option maxRecDepth 100000
namespace K33
open PySem PySem.Spec PyProof.Rows L2 Kw
section
variable {ns : List Int} {n k : Int} {l : Nat} (h1 : 2 ≤ n) (h2 : n < 202) (a7 a8 a9 a10 a11 a12 a13 a14 a15 a16 a17 : Option D)
include h1 h2
theorem turn_ok {μ : Mem} (hb : Box μ l) : ∃ δ2 μ2, m_law_b1 (sl ns k l n a7 a8 a9 a10 a11 a12 a13 a14 a15 a16 a17) μ = .nx δ2 μ2 ∧ Sl ns k l n δ2 μ2 := by
  obtain ⟨root, μ1, ee1, r0, r1, hb1⟩ := turn1 (ns := ns) (k := k) h1 h2 a7 a8 a9 a10 a11 a12 a13 a14 a15 a16 a17 hb
  have due := callP_ok (μ := μ1) (powers_ok (r := root) (n := n) (by omega) (by omega)) rfl rfl
  obtain ⟨r, μ2, ht, t0, t1, hb2, _⟩ := takeM (m := 2) hb1 (by omega) (by omega)
  obtain ⟨P, hP⟩ : ∃ P, P = dvs (n - 1) := ⟨_, rfl⟩
  have hlen := okP_len h1 h2
  rw [← hP] at hlen
  have hsz : P.length ≤ sizeLine := by show _ ≤ 2 ^ 24; omega
  -- the value that is asked
  obtain ⟨v, hv, hph, hlv, vv⟩ : ∃ v : D, (eIfM (tBl (e2 gEq (eCallM f__law_take (aCons (eVar 2) (aCons (eC (.int 2)) aNil))) (eC (.int 0)))) (eAs gLstD (aCons (eVar 8) (aCons (eAs gList (aCons (e1 gRevL (eVar 4)) aNil)) aNil))) (eAs gTupD (aCons (eVar 8) (aCons (eAs gTuple (aCons (eVar 4) aNil)) aNil)))) (sl ns k l n a7 (some (.int root)) (some (.bl (ordC root n == n - 1))) a10 a11 a12 a13 a14 a15 a16 a17) μ1 = .ok v μ2 ∧ f_prime_holds [.int n, v] [] = .ok (.bl (ordC root n == n - 1)) [] ∧ locBs false 0 [.int n, v] = true ∧
      (∀ δ μ b0 b1 b2 b3 b4 b5 b6 b7 b8 b9, eVar 10 (b0 :: b1 :: b2 :: b3 :: b4 :: b5 :: b6 :: b7 :: b8 :: b9 :: some v :: δ) μ = .ok v μ) := by
    by_cases hr : r = 0
    · refine ⟨.lst [.int root, .lst (P.reverse.map D.int)], ?_, ?_, by simp [locBs, locB, locBs_ints, ← List.map_reverse], fun _ _ _ _ _ _ _ _ _ _ _ _ => rfl⟩
      · simp [eVar, ht, hr, gRevL, lstOf, ← hP, gList, seqOf, gLst_ok]
      · exact ph_ok (by omega) (by omega) (.inl rfl) (.inl rfl) (by rw [List.length_reverse]; omega) (ph_val h1 h2 r0 r1 (.inr (by rw [hP])))
    · refine ⟨.tup [.int root, .tup (P.map D.int)], ?_, ?_, by simp [locBs, locB, locBs_ints], fun _ _ _ _ _ _ _ _ _ _ _ _ => rfl⟩
      · simp [eVar, ht, hr, lstOf, ← hP, gTuple, gTup_ok]
      · exact ph_ok (by omega) (by omega) (.inr rfl) (.inr (.inl rfl)) (by omega) (ph_val h1 h2 r0 r1 (.inl (by rw [hP])))
  have hc := callP_ok (μ := μ2) hph hlv rfl
  obtain ⟨s, hs1, hs2⟩ := same_repr (ordC root n == n - 1) μ2
  unfold m_law_b1
  refine seq_ex ee1 ?_
  refine seq_ex (δ1 := sl ns k l n a7 (some (.int root)) (some (.bl (ordC root n == n - 1))) a10 a11 a12 a13 a14 a15 a16 a17) (μ1 := μ1) (by simp [eVar, due]) ?_
  refine seq_ex (δ1 := sl ns k l n a7 (some (.int root)) (some (.bl (ordC root n == n - 1))) (some v) a11 a12 a13 a14 a15 a16 a17) (μ1 := μ2) (by rw [sAsg_run, hv]; rfl) ?_
  refine seq_ex (δ1 := sl ns k l n a7 (some (.int root)) (some (.bl (ordC root n == n - 1))) (some v) a11 a12 a13 a14 a15 a16 a17) (μ1 := μ2) ?_ ?_
  · have v3 : ∀ μ, eVar 3 (sl ns k l n a7 (some (.int root)) (some (.bl (ordC root n == n - 1))) (some v) a11 a12 a13 a14 a15 a16 a17) μ = .ok (.int n) μ := fun _ => rfl
    have v9 : ∀ μ, eVar 9 (sl ns k l n a7 (some (.int root)) (some (.bl (ordC root n == n - 1))) (some v) a11 a12 a13 a14 a15 a16 a17) μ = .ok (.bl (ordC root n == n - 1)) μ := fun _ => rfl
    have pm : permL [1, 0] [v, .int n] = [.int n, v] := rfl
    simp [v3, v9, vv, hc, pm, gLst_ok, hs1, hs2]
  obtain ⟨b11, μ3, e5, hb3⟩ := less_ok (ns := ns) (k := k) h1 h2 a7 (some (.bl (ordC root n == n - 1))) (some v) a11 a12 a13 a14 a15 a16 a17 hb2 r0 r1
  refine seq_ex e5 ?_
  exact more_ok (ns := ns) (k := k) h1 h2 a7 (some (.bl (ordC root n == n - 1))) (some v) b11 a12 a13 a14 a15 a16 a17 hb3 r0 r1
theorem turns_ok {μ : Mem} (hb : Box μ l) : ∃ δ2 μ2, loopS (gNm 7) m_law_b1 it6 (sl ns k l n a7 a8 a9 a10 a11 a12 a13 a14 a15 a16 a17) μ = .nx δ2 μ2 ∧ Sl ns k l n δ2 μ2 :=
  loopS_inv (I := Sl ns k l n) (fun d hd δ μ ⟨⟨b7, b8, b9, b10, b11, b12, b13, b14, b15, b16, b17, e⟩, hb⟩ => by
    subst e
    obtain ⟨δ2, μ2, e2, hi⟩ := turn_ok (ns := ns) (k := k) h1 h2 (some d) b8 b9 b10 b11 b12 b13 b14 b15 b16 b17 hb
    exact ⟨_, δ2, μ2, rfl, .inl e2, hi⟩) ⟨⟨_, _, _, _, _, _, _, _, _, _, _, rfl⟩, hb⟩
/-- the odd papers -/
theorem odd_ok {μ : Mem} (hb : Box μ l) : ∃ δ2 μ2, (sSeq (sAsg (eCallM f__law_pick (aCons (eVar 2) (aCons (eAs gLstD (aCons (eC .non) (aCons (eAs gTupD aNil) (aCons (eAs gTupD (aCons (eC (.int 1)) aNil)) (aCons (eAs gTupD (aCons (eVar 3) (aCons (eVar 4) aNil))) (aCons (eAs gTupD (aCons (eC (.int 0)) (aCons (eVar 4) aNil))) (aCons (eAs gTupD (aCons (eC (.bl true)) (aCons (eVar 4) aNil))) (aCons (eAs gTupD (aCons (eC (.int 1)) (aCons (eC .non) aNil))) (aCons (eC (.str "1")) (aCons (eC (.int 5)) (aCons (eAs gTupD (aCons (eC (.int 1)) (aCons (eVar 4) (aCons (eC (.int 0)) aNil)))) aNil))))))))))) aNil))) (gNm 13)) (sIf (tBl (e2 gIsNot (eCallP f_prime_holds (aCons (eVar 3) (aCons (eVar 13) aNil))) (eC (.bl false)))) (sRet (eC (.bl false))) sNext)) (sl ns k l n a7 a8 a9 a10 a11 a12 a13 a14 a15 a16 a17) μ = .nx δ2 μ2 ∧ Sl ns k l n δ2 μ2 := by
  obtain ⟨P, hP⟩ : ∃ P, P = dvs (n - 1) := ⟨_, rfl⟩
  have hlen := okP_len h1 h2
  rw [← hP] at hlen
  obtain ⟨y, μ2, hp, hy, hb2, _⟩ := pickM (xs := [.non, .tup [], .tup [.int 1], .tup [.int n, .lst (P.map D.int)], .tup [.int 0, .lst (P.map D.int)], .tup [.bl true, .lst (P.map D.int)], .tup [.int 1, .non], .str "1", .int 5, .tup [.int 1, .lst (P.map D.int), .int 0]]) hb (by simp) (by simp)
  have hph : f_prime_holds [.int n, y] [] = .ok (.bl false) [] ∧ locBs false 0 [.int n, y] = true ∧ (∀ δ μ b0 b1 b2 b3 b4 b5 b6 b7 b8 b9 b10 b11 b12, eVar 13 (b0 :: b1 :: b2 :: b3 :: b4 :: b5 :: b6 :: b7 :: b8 :: b9 :: b10 :: b11 :: b12 :: some y :: δ) μ = .ok y μ) := by
    simp only [List.mem_cons, List.mem_nil_iff, or_false] at hy
    rcases hy with h | h | h | h | h | h | h | h | h | h <;> subst h
    · exact ⟨ph_none rfl rfl fun _ _ _ => rfl, rfl, fun _ _ _ _ _ _ _ _ _ _ _ _ _ _ _ => rfl⟩
    · exact ⟨ph_len (by simp) rfl, rfl, fun _ _ _ _ _ _ _ _ _ _ _ _ _ _ _ => rfl⟩
    · exact ⟨ph_len (by simp) rfl, rfl, fun _ _ _ _ _ _ _ _ _ _ _ _ _ _ _ => rfl⟩
    · refine ⟨ph_ok (root := n) (ps := P) (by omega) (by omega) (.inr rfl) (.inl rfl) (by omega) ?_, by simp [locBs, locB, locBs_ints], fun _ _ _ _ _ _ _ _ _ _ _ _ _ _ _ => rfl⟩
      unfold phC
      rw [if_neg (by omega)]
    · refine ⟨ph_ok (root := 0) (ps := P) (by omega) (by omega) (.inr rfl) (.inl rfl) (by omega) ?_, by simp [locBs, locB, locBs_ints], fun _ _ _ _ _ _ _ _ _ _ _ _ _ _ _ => rfl⟩
      unfold phC
      rw [if_neg (by omega)]
    · exact ⟨ph_true, by simp [locBs, locB, locBs_ints], fun _ _ _ _ _ _ _ _ _ _ _ _ _ _ _ => rfl⟩
    · exact ⟨ph_nonp, rfl, fun _ _ _ _ _ _ _ _ _ _ _ _ _ _ _ => rfl⟩
    · exact ⟨ph_none rfl rfl fun _ _ _ => rfl, rfl, fun _ _ _ _ _ _ _ _ _ _ _ _ _ _ _ => rfl⟩
    · exact ⟨ph_none rfl rfl fun _ _ _ => rfl, rfl, fun _ _ _ _ _ _ _ _ _ _ _ _ _ _ _ => rfl⟩
    · exact ⟨ph_len (by simp) (by simp [locBs, locB, locBs_ints]), by simp [locBs, locB, locBs_ints], fun _ _ _ _ _ _ _ _ _ _ _ _ _ _ _ => rfl⟩
  obtain ⟨hph, hlv, vv⟩ := hph
  have hc := callP_ok (μ := μ2) hph hlv rfl
  refine seq_ex (δ1 := sl ns k l n a7 a8 a9 a10 a11 a12 (some y) a14 a15 a16 a17) (μ1 := μ2) ?_ ?_
  · simp [eVar, gTup_ok, gLst_ok, ← hP, hp]
  · refine ⟨sl ns k l n a7 a8 a9 a10 a11 a12 (some y) a14 a15 a16 a17, μ2, ?_, ⟨_, _, _, _, _, _, _, _, _, _, _, rfl⟩, hb2⟩
    have v3 : ∀ μ, eVar 3 (sl ns k l n a7 a8 a9 a10 a11 a12 (some y) a14 a15 a16 a17) μ = .ok (.int n) μ := fun _ => rfl
    simp [v3, vv, hc]
end
/-- the slots ahead of a turn of the law -/
def Top (ns : List Int) (δ : Sv) (_ : Mem) : Prop := ∃ b1 b2 b3 b4 b5 b6 b7 b8 b9 b10 b11 b12 b13 b14 b15 b16 b17, δ = [some (.scr (ns.map D.int)), b1, b2, b3, b4, b5, b6, b7, b8, b9, b10, b11, b12, b13, b14, b15, b16, b17]
theorem num_ok {k n : Int} (h1 : 2 ≤ n) (h2 : n < 202) (a0 a1 a2 a4 a5 a6 a7 a8 a9 a10 a11 a12 a13 a14 a15 a16 a17 : Option D) (μ : Mem) : (sAsg (eAs gTupD (aCons (eIfM (tBl (e2 gGt (eVar 3) (eC (.int 2)))) (eCallP f__law_divisors (aCons (e2 Kw.gSub (eVar 3) (eC (.int 1))) aNil)) (eAs gLstD aNil)) (aCons (eCallP f__law_is_prime (aCons (eVar 3) aNil)) aNil))) (gSeq 2 (gsCons (gNm 4) (gsCons (gNm 5) gsNil)))) [a0, a1, a2, some (.int n), a4, a5, a6, a7, a8, a9, a10, a11, a12, a13, a14, a15, a16, a17] μ = .nx [a0, a1, a2, some (.int n), some (.lst ((dvs (n - 1)).map D.int)), some (.bl (prB n)), a6, a7, a8, a9, a10, a11, a12, a13, a14, a15, a16, a17] μ := by
  have hd := callP_ok (μ := μ) (divisors_ok (n - 1) (by omega) (by omega)) rfl (by simp [locB, locBs_ints])
  have hp := callP_ok (μ := μ) (isprime_ok n (by omega) (by omega)) rfl rfl
  by_cases h : 2 < n
  · simp [eVar, h, hd, hp, gTup_ok, gSeq, seqOf, gsCons, gsNil]
  · have e : n = 2 := by omega
    subst e
    have : dvs 1 = [] := rfl
    simp [eVar, hp, gTup_ok, gSeq, seqOf, gsCons, gsNil, gLst0, this]
theorem some_ok {n : Int} (h1 : 2 ≤ n) (h2 : n < 202) (a0 a1 a2 a4 a5 a6 a7 a8 a9 a10 a11 a12 a13 a14 a15 a16 a17 : Option D) (μ : Mem) : (sAsg (eLc (iRange2 (aCons (eC (.int 1)) (aCons (eVar 3) aNil))) (gNm 8) (tBl (e2 gEq (eCallP f__law_powers (aCons (eVar 8) (aCons (eVar 3) aNil))) (e2 Kw.gSub (eVar 3) (eC (.int 1))))) (eVar 8) [8]) (gNm 6)) [a0, a1, a2, some (.int n), a4, a5, a6, a7, a8, a9, a10, a11, a12, a13, a14, a15, a16, a17] μ = .nx [a0, a1, a2, some (.int n), a4, a5, some (.lst ((som n).map D.int)), a7, a8, a9, a10, a11, a12, a13, a14, a15, a16, a17] μ := by
  have hr := range2_run (mr := aCons (eC (.int 1)) (aCons (eVar 3) aNil)) (δ := [a0, a1, a2, some (.int n), a4, a5, a6, a7, a8, a9, a10, a11, a12, a13, a14, a15, a16, a17]) (μ := μ) (μ1 := μ) (i := 1) (j := n) rfl (by omega) (by omega) (by omega) (by omega)
  have hl := lcL_ints (g := gNm 8) (mt := tBl (e2 gEq (eCallP f__law_powers (aCons (eVar 8) (aCons (eVar 3) aNil))) (e2 Kw.gSub (eVar 3) (eC (.int 1))))) (me := eVar 8) (δ := [a0, a1, a2, some (.int n), a4, a5, a6, a7, none, a9, a10, a11, a12, a13, a14, a15, a16, a17]) (μ := μ) (is := rng 1 n) (t := fun r => ordC r n == n - 1) (f := D.int) (fun r hr => by
    refine ⟨[a0, a1, a2, some (.int n), a4, a5, a6, a7, some (.int r), a9, a10, a11, a12, a13, a14, a15, a16, a17], rfl, ?_, fun _ => rfl⟩
    have due := callP_ok (μ := μ) (powers_ok (r := r) (n := n) (by omega) (by omega)) rfl rfl
    simp [eVar, due])
  have hs : (som n).length ≤ sizeLine := by show _ ≤ 2 ^ 24; have := som_len h2; omega
  unfold som at hs ⊢
  simp [hr, wipeD, hl, hs]
theorem top_ok {ns : List Int} {k : Int} (h0 : 0 ≤ k) (a2 a3 a4 a5 a6 a7 a8 a9 a10 a11 a12 a13 a14 a15 a16 a17 : Option D) (μ : Mem) : ∃ δ2 μ2, m_law_b2 [some (.scr (ns.map D.int)), some (.int k), a2, a3, a4, a5, a6, a7, a8, a9, a10, a11, a12, a13, a14, a15, a16, a17] μ = .nx δ2 μ2 ∧ Top ns δ2 μ2 := by
  obtain ⟨g, x, hb, g0, x0, x1⟩ := box_ok (ns := ns) (μ := μ) h0
  have hbx := callM_new hb (Nat.le_refl _)
  obtain ⟨μ1, hμ1⟩ : ∃ μ1 : Mem, μ1 = μ ++ [.lst [.int g, .int x]] := ⟨_, rfl⟩
  rw [← hμ1] at hbx
  have B1 : Box μ1 μ.length := ⟨g, x, by rw [hμ1]; simp, g0, x0, x1⟩
  obtain ⟨y, μ2, hp, hy, B2, _⟩ := pickM (xs := [.int 12, .int 60, .int 200]) B1 (by simp) (by simp)
  obtain ⟨m, rfl, m0, m1⟩ : ∃ m : Int, y = .int m ∧ 12 ≤ m ∧ m ≤ 200 := by
    simp only [List.mem_cons, List.mem_nil_iff, or_false] at hy
    rcases hy with h | h | h <;> subst h <;> exact ⟨_, rfl, by decide, by decide⟩
  obtain ⟨t, μ3, ht, t0, t1, B3, _⟩ := takeM (m := m) B2 (by omega) (by omega)
  obtain ⟨n, hn⟩ : ∃ n, n = 2 + t := ⟨_, rfl⟩
  have h1 : 2 ≤ n := by omega
  have h2 : n < 202 := by omega
  unfold m_law_b2
  refine seq_ex (δ1 := [some (.scr (ns.map D.int)), some (.int k), some (.loc μ.length), a3, a4, a5, a6, a7, a8, a9, a10, a11, a12, a13, a14, a15, a16, a17]) (μ1 := μ1) (by simp [eVar, hbx]) ?_
  refine seq_ex (δ1 := [some (.scr (ns.map D.int)), some (.int k), some (.loc μ.length), some (.int n), a4, a5, a6, a7, a8, a9, a10, a11, a12, a13, a14, a15, a16, a17]) (μ1 := μ3) (by simp [eVar, gLst_ok, hp, ht, hn]) ?_
  refine seq_ex (num_ok (k := k) h1 h2 _ _ _ _ _ _ _ _ _ _ _ _ _ _ _ _ _ μ3) ?_
  refine seq_ex (some_ok h1 h2 _ _ _ _ _ _ _ _ _ _ _ _ _ _ _ _ _ μ3) ?_
  refine seq_ex (δ1 := sl ns k μ.length n a7 a8 a9 a10 a11 a12 a13 a14 a15 a16 a17) (μ1 := μ3) ?_ ?_
  · have := som_prime h1 h2
    simp [eVar, gLst0, gNe_nil, this]
  obtain ⟨δ4, μ4, e4, ⟨b7, b8, b9, b10, b11, b12, b13, b14, b15, b16, b17, e⟩, B4⟩ := turns_ok (ns := ns) (k := k) h1 h2 a7 a8 a9 a10 a11 a12 a13 a14 a15 a16 a17 B3
  subst e
  refine seq_ex (δ1 := sl ns k μ.length n b7 b8 b9 b10 b11 b12 b13 b14 b15 b16 b17) (μ1 := μ4) (by rw [sFor_run, range6]; exact e4) ?_
  obtain ⟨δ5, μ5, e5, ⟨c7, c8, c9, c10, c11, c12, c13, c14, c15, c16, c17, e⟩, _⟩ := odd_ok (ns := ns) (k := k) h1 h2 b7 b8 b9 b10 b11 b12 b13 b14 b15 b16 b17 B4
  exact ⟨δ5, μ5, e5, ⟨_, _, _, _, _, _, _, _, _, _, _, _, _, _, _, _, _, e⟩⟩
theorem tops_ok (ns : List Int) : ∃ δ2 μ2, loopS (gNm 1) m_law_b2 it3 [some (.scr (ns.map D.int)), none, none, none, none, none, none, none, none, none, none, none, none, none, none, none, none, none] [] = .nx δ2 μ2 ∧ Top ns δ2 μ2 :=
  loopS_inv (I := Top ns) (fun d hd δ μ ⟨b1, b2, b3, b4, b5, b6, b7, b8, b9, b10, b11, b12, b13, b14, b15, b16, b17, e⟩ => by
    subst e
    obtain ⟨j, hj, rfl⟩ := List.mem_map.mp hd
    obtain ⟨δ2, μ2, e2, hi⟩ := top_ok (ns := ns) (k := (j : Int)) (by omega) b2 b3 b4 b5 b6 b7 b8 b9 b10 b11 b12 b13 b14 b15 b16 b17 μ
    exact ⟨_, δ2, μ2, rfl, .inl e2, hi⟩) ⟨_, _, _, _, _, _, _, _, _, _, _, _, _, _, _, _, _, rfl⟩
end K33

set_option Elab.async false
set_option linter.all false
set_option maxRecDepth 100000
namespace K33
open PySem PySem.Spec PyProof.Rows L2 Kw
theorem pure (ns : List Int) (hl : ns.length ≤ 63) (hb : ∀ z ∈ ns, Builtin.Int.intBits z ≤ 1048576) : ∃ μ, f_law [.scr (ns.map D.int)] [] = .ok (.bl true) μ := by
  obtain ⟨δ2, μ2, e, b1, b2, b3, b4, b5, b6, b7, b8, b9, b10, b11, b12, b13, b14, b15, b16, b17, rfl⟩ := tops_ok ns
  refine ⟨μ2, ?_⟩
  have run : (sFor (iRange1 (aCons (eC (.int 3)) aNil)) (gNm 1) m_law_b2) [some (.scr (ns.map D.int)), none, none, none, none, none, none, none, none, none, none, none, none, none, none, none, none, none] [] = .nx [some (.scr (ns.map D.int)), b1, b2, b3, b4, b5, b6, b7, b8, b9, b10, b11, b12, b13, b14, b15, b16, b17] μ2 := by
    rw [sFor_run, range3]
    exact e
  unfold f_law bodyM m_law
  show (match ((sFor (iRange1 (aCons (eC (.int 3)) aNil)) (gNm 1) m_law_b2) [some (.scr (ns.map D.int)), none, none, none, none, none, none, none, none, none, none, none, none, none, none, none, none, none] []).then _ with
    | .ret d μ' => Out.ok d μ'
    | .nx _ μ' => .ok .non μ'
    | .exc x _ μ' => .exc x μ'
    | _ => .stuck) = _
  rw [run]
  clear run e hl hb
  generalize ns.map D.int = sc
  kernel_rfl
end K33

set_option Elab.async false
set_option linter.all false
set_option maxRecDepth 100000
set_option maxHeartbeats 0
open PySem PySem.W PySem.Calls PyProof.Rows
theorem PySem.Challenge.cw_keptwhole_k33_powers_that_show_a_prime_holds : PySem.Challenge.rw_keptwhole_k33_powers_that_show_a_prime.Holds := by
  w_on; o_law
  refine HandSHeadRun.head_any (r := OpenLaw.row PySem.Challenge.rw_keptwhole_k33_powers_that_show_a_prime) (q := view (OpenLaw.row PySem.Challenge.rw_keptwhole_k33_powers_that_show_a_prime).prog [22]) (H := K33.hk) (ob := K33.ob) (M := 2000) (loose := K33.loose) (d := HandSHeadRun.topDef (OpenLaw.row PySem.Challenge.rw_keptwhole_k33_powers_that_show_a_prime).prog 22) (kwd := []) K33.ob_eq
    (by kernel_rfl) (fun s => by kernel_rfl) K33.run (by kernel_rfl) (by kernel_rfl) (by kernel_rfl) (by rfl) (by first | assumption | decide +kernel) (by decide +kernel) ⟨rfl, rfl, rfl, rfl, rfl, by decide +kernel⟩ ?hw ?hc
  case hw => w_witness2
  case hc =>
    refine Kw.walk_G (l := PySem.Challenge.rw_keptwhole_k33_powers_that_show_a_prime) (n := 63) (k := 6) (x := "_law_script") (m := K33.f_law) rfl (by decide) (by kernel_rfl) ⟨rfl, by decide, by decide⟩ K33.pure ?F
    intro w mg fa h Y G hmg0
    obtain ⟨K, KX, c⟩ := Y
    have hmg : mg ("law" : PySem.Str) = some (.ref fa) := by
      have e : (HandSHeadRun.topDef (OpenLaw.row PySem.Challenge.rw_keptwhole_k33_powers_that_show_a_prime).prog 22).name = ("law" : PySem.Str) := by kernel_rfl
      rw [← e]
      exact hmg0
    obtain ⟨fd, hb, hF⟩ := K33.facts (P := (PySem.Challenge.rw_keptwhole_k33_powers_that_show_a_prime).prog) (w := w) (T := []) KX G hmg c
    exact ⟨K, fd, [], [], KX, (fun p hp => nomatch hp), (fun p hp => nomatch hp), (fun p hp => nomatch hp), (fun p hp => nomatch hp), hb, fun base kb nb _ => hF base kb nb⟩

