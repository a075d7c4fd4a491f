import PyProof.Rows.All
import Wide.All
import OpenK.AllK
import Wide.FinOn
import PyProof.EqAt
import PyProof.EqKinds
import PyProof.TupleCall
import HandS.ForMost
import HandS.Lambda
import HandS.Wide
import HandS.WideMore
import HandS.WideBits
import HandS.Conv
import HandS.Zip
import HandS.IsInst
import HandS.TupAny
import HandS.TryMany
import HandS.ExcField
import HandS.Defaults
import HandS.HeadWalk
import HandS.HeadHook4
import HandS.Head2
import HandS.Flow
import HandS.Deep
import HandS.Rev
import HandS.Style
import HandS.Small
import HandS.ExcOwn
import HandS.TupLe
import HandS.TupMul
import HandS.NoneIn
import HandS.WordsDict
import HandS.DictComp
import HandS.SetFor
import KE.KExcSuper
import HandS.ExcSuper
import HandS.Exc
import PyProof.Rows.FactsExc_KeyError
import KE.GoesEnum
import KE.DataAny
import PyProof.StrBlock2
import PyProof.ListIndex
import HandS.ExcIs
import KE.KExcIs
import PyProof.AutoSeq1
import PyProof.P3Eq
import PyProof.ReprText
import PyProof.ReprBulk
import PyProof.SumAny
import PyProof.Rows.SumAny
import PyProof.WalkInts
import PyProof.InstNe
import HandS.NamedTupSort
import HandS.OwnEq
import HandS.Strs
import HandS.SortInts
import HandS.Flt
import PyProof.DictCopy
import PyProof.DictUpdate
import KE.SortKeyHeap
import HandS.SortKw
import KE.KDictList
import HandS.TupSets
import PyProof.ListRange
import KE.KItemsList
import KE.KDictPairs
import HandS.DeepEq
import KE.DataMinMax
import PySem.Challenge.RW_keptwhole_k61_whole_nearest_common_elder
set_option Elab.async false
set_option linter.all false
set_option maxRecDepth 100000
namespace Kw
open PySem PySem.Spec PyProof.Rows L2
/-- a lambda's text: its name, parameters, body, names -/
structure Lm where
  q : Str
  ps : Arguments
  bd : Expr
  sc : Scope
/-- the thing at f is that lambda, of code c -/
def LamO (f c : Addr) (L : Lm) : HO := .ext fun h => ∃ pm ctv, h.get? f = some (PySem.W.kla_obj "<lambda>" L.q L.ps L.bd L.sc [] pm c ctv)
/-- data: what never changes (lst, dct: a list, a dict that nothing changes any more), or the place of a thing that changes -/
inductive D where
  | non | bl (b : Bool) | int (i : Int) | str (x : Str)
  | tup (xs : List D) | lst (xs : List D)
  | dct (kvs : List (D × D))
  /-- a list, a dict that is read alone: the script, a module's list, what a caller lent -/
  | scr (xs : List D) | brd (kvs : List (D × D))
  | loc (l : Nat)
  /-- an own class, a def: by its global name; a built-in class by its name -/
  | glb (x : Str) | ty (n : String)
  /-- an instance that nothing changes any more: class, fields' names, fields -/
  | ins (c : Str) (ns : List Str) (xs : List D)
  /-- a lambda that captures nothing: its number in the def, its text -/
  | fn (i : Nat) (L : Lm)
  /-- the def's argument that is a lambda; the exception that a suite holds -/
  | lam | exc (c : Str) (fs : List (Str × D))
/-- a thing that changes -/
inductive Ob where
  | lst (xs : List D)
  | dct (kvs : List (D × D))
  | ins (c : Str) (fs : List (Str × D))
  /-- a dict that is gone through: it is read alone until that is done -/
  | lkd (kvs : List (D × D))
  /-- it never changes again: laid for good -/
  | gone
/-- an exception: its class, its fields -/
structure Xn where
  cls : Str
  fs : List (Str × D)
abbrev Mem := List Ob
abbrev Sv := List (Option D)
inductive Out (α : Type) where
  | ok (a : α) (μ : Mem)
  | exc (x : Xn) (μ : Mem)
  | stuck
/-- the world: where the places lie, what is laid for good, what callers lent (it stays), what is being made (it stays), what is gone through (it stays) -/
structure Wd where
  n : Nat
  ρ : Nat → Addr
  φ : Hp
  fr : Hp
  gr : Hp
  lk : Hp
structure Wd.Le (w w' : Wd) : Prop where
  n : w.n ≤ w'.n
  ρ : ∀ l, l < w.n → w'.ρ l = w.ρ l
  φ : ∀ a o, w.φ a = some o → w'.φ a = some o
  fr : w'.fr = w.fr
  gr : w'.gr = w.gr
  lk : w'.lk = w.lk
/-- .. what is being made apart -/
structure Wd.Lw (w w' : Wd) : Prop where
  n : w.n ≤ w'.n
  ρ : ∀ l, l < w.n → w'.ρ l = w.ρ l
  φ : ∀ a o, w.φ a = some o → w'.φ a = some o
  fr : w'.fr = w.fr
  lk : w'.lk = w.lk
/-- .. what is gone through apart, too -/
structure Wd.L0 (w w' : Wd) : Prop where
  n : w.n ≤ w'.n
  ρ : ∀ l, l < w.n → w'.ρ l = w.ρ l
  φ : ∀ a o, w.φ a = some o → w'.φ a = some o
  fr : w'.fr = w.fr
theorem Wd.Le.lw {w w' : Wd} (l : w.Le w') : w.Lw w' := ⟨l.n, l.ρ, l.φ, l.fr, l.lk⟩
theorem Wd.Lw.l0 {w w' : Wd} (l : w.Lw w') : w.L0 w' := ⟨l.n, l.ρ, l.φ, l.fr⟩
theorem Wd.L0.trans {a b c : Wd} (x : a.L0 b) (y : b.L0 c) : a.L0 c :=
  ⟨Nat.le_trans x.n y.n, fun l h => (y.ρ l (Nat.lt_of_lt_of_le h x.n)).trans (x.ρ l h), fun p o h => y.φ p o (x.φ p o h), y.fr.trans x.fr⟩
theorem Wd.Lw.trans {a b c : Wd} (x : a.Lw b) (y : b.Lw c) : a.Lw c :=
  ⟨Nat.le_trans x.n y.n, fun l h => (y.ρ l (Nat.lt_of_lt_of_le h x.n)).trans (x.ρ l h), fun p o h => y.φ p o (x.φ p o h), y.fr.trans x.fr, y.lk.trans x.lk⟩
theorem Wd.Le.refl (w : Wd) : w.Le w := ⟨Nat.le_refl _, fun _ _ => rfl, fun _ _ h => h, rfl, rfl, rfl⟩
theorem Wd.Le.trans {a b c : Wd} (x : a.Le b) (y : b.Le c) : a.Le c :=
  ⟨Nat.le_trans x.n y.n, fun l h => (y.ρ l (Nat.lt_of_lt_of_le h x.n)).trans (x.ρ l h), fun p o h => y.φ p o (x.φ p o h), y.fr.trans x.fr, y.gr.trans x.gr, y.lk.trans x.lk⟩
section
variable (K : PySem.W.Frag) (mg : Str → Option Value) (w : Wd)
mutual
inductive RelD : D → V → Prop
  | non : RelD .non .non
  | bl (b : Bool) : RelD (.bl b) (.bl b)
  | int (i : Int) : RelD (.int i) (.int i)
  | str (x : Str) : RelD (.str x) (.str x)
  | tup {a : Addr} {vs : List V} {ds : List D} : SqT K w.φ a vs → RelDs ds vs → RelD (.tup ds) (.ref a)
  | lst {a : Addr} {vs : List V} {ds : List D} : w.φ a = some (.lst vs) → RelDs ds vs → RelD (.lst ds) (.ref a)
  | scr {a : Addr} {vs : List V} {ds : List D} : (SqL K w.φ a vs ∨ w.fr a = some (.lst vs)) → RelDs ds vs → RelD (.scr ds) (.ref a)
  | brd {a : Addr} {kvs : List (Key × V)} {ks ds : List D} : Rd w.fr a (.dK kvs) → ks = kvs.map (fun p => match p.1 with | .inl i => D.int i | .inr x => D.str x) → RelDs ds (kvs.map (·.2)) → RelD (.brd (ks.zip ds)) (.ref a)
  | dctK {a : Addr} {kvs : List (Key × V)} {ks ds : List D} : Rd w.φ a (.dK kvs) → ks = kvs.map (fun p => match p.1 with | .inl i => D.int i | .inr x => D.str x) → RelDs ds (kvs.map (·.2)) → RelD (.dct (ks.zip ds)) (.ref a)
  | loc {l : Nat} : l < w.n → RelD (.loc l) (.ref (w.ρ l))
  | glb {x : Str} {a : Addr} : mg x = some (.ref a) → RelD (.glb x) (.ref a)
  | ty (n : String) : RelD (.ty n) (.ty n)
  | ins {a C dx : Addr} {c : Str} {ns : List Str} {xs : List D} {gs : List (Str × V)} : mg c = some (.ref C) → w.φ a = some (.ins C dx gs) → gs.map (·.1) = ns → RelDs xs (gs.map (·.2)) → RelD (.ins c ns xs) (.ref a)
  | fn {f c : Addr} {i : Nat} {L : Lm} : w.φ f = some (LamO f c L) → (w.φ c = some (LamX.CodeO c L.q) ∨ w.fr c = some (LamX.CodeO c L.q)) → RelD (.fn i L) (.ref f)
inductive RelDs : List D → List V → Prop
  | nil : RelDs [] []
  | cons {d : D} {ds : List D} {v : V} {vs : List V} : RelD d v → RelDs ds vs → RelDs (d :: ds) (v :: vs)
end
end
section
variable {K : PySem.W.Frag} {mg : Str → Option Value} {w w' : Wd}
theorem rd_mono {H H' : Hp} (e : ∀ a o, H a = some o → H' a = some o) {a : Addr} {o : HO} (h : Rd H a o) : Rd H' a o := h.elim (fun h => .inl (e _ _ h)) fun ⟨o', h⟩ => .inr ⟨o', e _ _ h⟩
theorem sqL_mono {H H' : Hp} (e : ∀ a o, H a = some o → H' a = some o) {a : Addr} {xs : List V} (h : SqL K H a xs) : SqL K H' a xs := h.elim (fun h => .inl (rd_mono e h)) .inr
theorem sqT_mono {H H' : Hp} (e : ∀ a o, H a = some o → H' a = some o) {a : Addr} {xs : List V} (h : SqT K H a xs) : SqT K H' a xs := h.elim (fun h => .inl (rd_mono e h)) .inr
theorem RelDs.length {ds : List D} {vs : List V} (h : RelDs K mg w ds vs) : ds.length = vs.length := by
  induction ds generalizing vs with
  | nil => cases h; rfl
  | cons d ds ih => cases h with | cons h1 h2 => simp [ih h2]
mutual
theorem RelD.mono0 (le : w.L0 w') : ∀ {d : D} {v : V}, RelD K mg w d v → RelD K mg w' d v
  | _, _, .non => .non
  | _, _, .bl b => .bl b
  | _, _, .int i => .int i
  | _, _, .str x => .str x
  | _, _, .tup h r => .tup (sqT_mono le.φ h) (RelDs.mono0 le r)
  | _, _, .lst h r => .lst (le.φ _ _ h) (RelDs.mono0 le r)
  | _, _, .scr h r => .scr (h.elim (fun h => .inl (sqL_mono le.φ h)) fun h => .inr (by rw [le.fr]; exact h)) (RelDs.mono0 le r)
  | _, _, .brd h e r => .brd (by rw [le.fr]; exact h) e (RelDs.mono0 le r)
  | _, _, .dctK h e r => .dctK (rd_mono le.φ h) e (RelDs.mono0 le r)
  | _, _, .loc (l := l) h => le.ρ l h ▸ .loc (Nat.lt_of_lt_of_le h le.n)
  | _, _, .glb h => .glb h
  | _, _, .ty n => .ty n
  | _, _, .ins g h e r => .ins g (le.φ _ _ h) e (RelDs.mono0 le r)
  | _, _, .fn h k => .fn (le.φ _ _ h) (k.imp (le.φ _ _) fun k => by rw [le.fr]; exact k)
theorem RelDs.mono0 (le : w.L0 w') : ∀ {ds : List D} {vs : List V}, RelDs K mg w ds vs → RelDs K mg w' ds vs
  | _, _, .nil => .nil
  | _, _, .cons h t => .cons (RelD.mono0 le h) (RelDs.mono0 le t)
end
theorem RelD.monoW (le : w.Lw w') {d : D} {v : V} (h : RelD K mg w d v) : RelD K mg w' d v := RelD.mono0 le.l0 h
theorem RelDs.monoW (le : w.Lw w') {ds : List D} {vs : List V} (h : RelDs K mg w ds vs) : RelDs K mg w' ds vs := RelDs.mono0 le.l0 h
theorem RelD.mono (le : w.Le w') {d : D} {v : V} (h : RelD K mg w d v) : RelD K mg w' d v := RelD.monoW le.lw h
theorem RelDs.mono (le : w.Le w') {ds : List D} {vs : List V} (h : RelDs K mg w ds vs) : RelDs K mg w' ds vs := RelDs.monoW le.lw h
end
end Kw
set_option Elab.async false
set_option linter.all false
set_option maxRecDepth 100000
namespace Kw
open PySem PySem.Spec PyProof.Rows L2
def keyD : Key → D
  | .inl i => .int i
  | .inr x => .str x
def RelFs (K : PySem.W.Frag) (mg : Str → Option Value) (w : Wd) (fs : List (Str × D)) (gs : List (Str × V)) : Prop := fs.map (·.1) = gs.map (·.1) ∧ RelDs K mg w (fs.map (·.2)) (gs.map (·.2))
inductive RelOb (K : PySem.W.Frag) (mg : Str → Option Value) (w : Wd) : Ob → Option HO → Prop
  | lst {xs : List D} {vs : List V} : RelDs K mg w xs vs → RelOb K mg w (.lst xs) (some (.lst vs))
  | dct {kvs : List (D × D)} {gs : List (Key × V)} : kvs.map (·.1) = gs.map (fun p => keyD p.1) → RelDs K mg w (kvs.map (·.2)) (gs.map (·.2)) → RelOb K mg w (.dct kvs) (some (.dK gs))
  | ins {c : Str} {fs : List (Str × D)} {C dx : Addr} {gs : List (Str × V)} : mg c = some (.ref C) → RelFs K mg w fs gs → RelOb K mg w (.ins c fs) (some (.ins C dx gs))
  | lkd {kvs : List (D × D)} {gs : List (Key × V)} {od : Obj} : kvs.map (·.1) = gs.map (fun p => keyD p.1) → RelDs K mg w (kvs.map (·.2)) (gs.map (·.2)) → RelOb K mg w (.lkd kvs) (some (.frz od (.dK gs)))
  | gone {o : HO} : RelOb K mg w .gone (some o)
/-- what is gone through stays -/
structure LkOk (w : Wd) (μ : Mem) (H : Hp) : Prop where
  at_ : ∀ a o, w.lk a = some o → H a = some o ∧ w.gr a = none ∧ w.φ a = none ∧ ∃ od u, o = .frz od u
  ln : ∀ l b, μ[l]? = some b → b ≠ .gone → (∀ kvs, b ≠ .lkd kvs) → w.lk (w.ρ l) = none
  lo : ∀ l kvs, μ[l]? = some (.lkd kvs) → H (w.ρ l) = w.lk (w.ρ l)
structure RelM (K : PySem.W.Frag) (mg : Str → Option Value) (T : List (Addr × Str)) (w : Wd) (μ : Mem) (H : Hp) : Prop where
  n : w.n = μ.length
  φ : ∀ a o, w.φ a = some o → H a = some o
  fr : ∀ a o, w.fr a = some o → H a = some o
  gr : ∀ a o, w.gr a = some o → H a = some o
  dj : ∀ a o, w.fr a = some o → w.φ a = none
  dg : ∀ a o, w.gr a = some o → w.φ a = none ∧ w.fr a = none
  ob : ∀ l b, μ[l]? = some b → RelOb K mg w b (H (w.ρ l)) ∧ (b ≠ .gone → w.φ (w.ρ l) = none ∧ w.fr (w.ρ l) = none ∧ w.gr (w.ρ l) = none)
  gn : ∀ l, μ[l]? = some .gone → ∃ o, w.φ (w.ρ l) = some o
  inj : ∀ l l', l < w.n → l' < w.n → w.ρ l = w.ρ l' → l = l'
  tabs : LamX.Tabs T H
  lo : LkOk w μ H
  nt : ∀ a ps, w.φ a ≠ some (.tbl ps) ∧ w.fr a ≠ some (.tbl ps) ∧ w.gr a ≠ some (.tbl ps) ∧ ∀ f, w.gr a ≠ some (.ext f)
def RelX (K : PySem.W.Frag) (mg : Str → Option Value) (w : Wd) (x : Xn) (cls : Value) (d : Option Addr) : Prop :=
  ∃ C dd gs, mg x.cls = some (.ref C) ∧ cls = .ref C ∧ d = some dd ∧ w.φ dd = some (.xd gs) ∧ RelFs K mg w x.fs gs
/-- what a body has beside its data: the lambda that it was given; the exception that a suite holds -/
structure SI where
  T : List (Addr × Str)
  lam : V := .non
  w0 : Wd := ⟨0, fun _ => 0, fun _ => none, fun _ => none, fun _ => none, fun _ => none⟩
  exa : Addr := 0
  ecls : Value := .none
  edd : Option Addr := none
def RelS (K : PySem.W.Frag) (mg : Str → Option Value) (S : SI) (w : Wd) : D → V → Prop
  | .lam, v => v = S.lam ∧ S.w0.L0 w
  | .exc c fs, v => v = .ref S.exa ∧ RelX K mg w ⟨c, fs⟩ S.ecls S.edd
  | d, v => RelD K mg w d v
def RelSv (K : PySem.W.Frag) (mg : Str → Option Value) (S : SI) (w : Wd) (δ : Sv) (σ : L2.St) : Prop :=
  δ.length = σ.length ∧ ∀ (i : Nat) (d : D), δ[i]? = some (some d) → ∃ v, σ[i]? = some (some v) ∧ RelS K mg S w d v
section
variable {K : PySem.W.Frag} {mg : Str → Option Value} {w w' : Wd} {T : List (Addr × Str)} {S : SI} {μ : Mem} {H : Hp}
theorem RelFs.mono0 (le : w.L0 w') {fs gs} (h : RelFs K mg w fs gs) : RelFs K mg w' fs gs := ⟨h.1, RelDs.mono0 le h.2⟩
theorem RelOb.mono0 (le : w.L0 w') {b : Ob} {o : Option HO} (h : RelOb K mg w b o) : RelOb K mg w' b o := by
  cases h with
  | lst r => exact .lst (RelDs.mono0 le r)
  | dct e r => exact .dct e (RelDs.mono0 le r)
  | ins e r => exact .ins e (r.mono0 le)
  | lkd e r => exact .lkd e (RelDs.mono0 le r)
  | gone => exact .gone
theorem RelX.mono0 (le : w.L0 w') {x : Xn} {c : Value} {d : Option Addr} (h : RelX K mg w x c d) : RelX K mg w' x c d := by
  obtain ⟨C, dd, gs, a, b, c, d, e⟩ := h
  exact ⟨C, dd, gs, a, b, c, le.φ _ _ d, e.mono0 le⟩
theorem RelS.mono0 (le : w.L0 w') : ∀ {d : D} {v : V}, RelS K mg S w d v → RelS K mg S w' d v
  | .lam, _, h => ⟨h.1, h.2.trans le⟩
  | .exc _ _, _, h => ⟨h.1, h.2.mono0 le⟩
  | .non, _, h => RelD.mono0 (d := .non) le h
  | .bl _, _, h => RelD.mono0 (d := .bl _) le h
  | .int _, _, h => RelD.mono0 (d := .int _) le h
  | .str _, _, h => RelD.mono0 (d := .str _) le h
  | .tup _, _, h => RelD.mono0 (d := .tup _) le h
  | .lst _, _, h => RelD.mono0 (d := .lst _) le h
  | .scr _, _, h => RelD.mono0 (d := .scr _) le h
  | .brd _, _, h => RelD.mono0 (d := .brd _) le h
  | .dct _, _, h => RelD.mono0 (d := .dct _) le h
  | .loc _, _, h => RelD.mono0 (d := .loc _) le h
  | .glb _, _, h => RelD.mono0 (d := .glb _) le h
  | .ty _, _, h => RelD.mono0 (d := .ty _) le h
  | .ins _ _ _, _, h => RelD.mono0 (d := .ins _ _ _) le h
  | .fn _ _, _, h => RelD.mono0 (d := .fn _ _) le h
theorem RelFs.monoW (le : w.Lw w') {fs gs} (h : RelFs K mg w fs gs) : RelFs K mg w' fs gs := h.mono0 le.l0
theorem RelOb.monoW (le : w.Lw w') {b : Ob} {o : Option HO} (h : RelOb K mg w b o) : RelOb K mg w' b o := h.mono0 le.l0
theorem RelX.monoW (le : w.Lw w') {x : Xn} {c : Value} {d : Option Addr} (h : RelX K mg w x c d) : RelX K mg w' x c d := h.mono0 le.l0
theorem RelS.monoW (le : w.Lw w') {d : D} {v : V} (h : RelS K mg S w d v) : RelS K mg S w' d v := h.mono0 le.l0
theorem RelFs.mono (le : w.Le w') {fs gs} (h : RelFs K mg w fs gs) : RelFs K mg w' fs gs := h.monoW le.lw
theorem RelOb.mono (le : w.Le w') {b : Ob} {o : Option HO} (h : RelOb K mg w b o) : RelOb K mg w' b o := h.monoW le.lw
theorem RelX.mono (le : w.Le w') {x : Xn} {c : Value} {d : Option Addr} (h : RelX K mg w x c d) : RelX K mg w' x c d := h.monoW le.lw
theorem RelS.mono (le : w.Le w') {d : D} {v : V} (h : RelS K mg S w d v) : RelS K mg S w' d v := h.monoW le.lw
theorem RelS.of : ∀ {d : D} {v : V}, RelD K mg w d v → RelS K mg S w d v
  | .non, _, h => h
  | .bl _, _, h => h
  | .int _, _, h => h
  | .str _, _, h => h
  | .tup _, _, h => h
  | .lst _, _, h => h
  | .scr _, _, h => h
  | .brd _, _, h => h
  | .dct _, _, h => h
  | .loc _, _, h => h
  | .glb _, _, h => h
  | .ty _, _, h => h
  | .ins _ _ _, _, h => h
  | .fn _ _, _, h => h
  | .lam, _, h => nomatch h
  | .exc _ _, _, h => nomatch h
theorem RelSv.mono0 (le : w.L0 w') {δ : Sv} {σ : L2.St} (h : RelSv K mg S w δ σ) : RelSv K mg S w' δ σ :=
  ⟨h.1, fun i d e => let ⟨v, a, b⟩ := h.2 i d e; ⟨v, a, b.mono0 le⟩⟩
theorem RelSv.monoW (le : w.Lw w') {δ : Sv} {σ : L2.St} (h : RelSv K mg S w δ σ) : RelSv K mg S w' δ σ := h.mono0 le.l0
theorem RelSv.mono (le : w.Le w') {δ : Sv} {σ : L2.St} (h : RelSv K mg S w δ σ) : RelSv K mg S w' δ σ := h.monoW le.lw
theorem RelSv.set {δ : Sv} {σ : L2.St} (h : RelSv K mg S w δ σ) (i : Nat) {d : D} {v : V} (r : RelD K mg w d v) : RelSv K mg S w (δ.set i (some d)) (σ.set i (some v)) := by
  refine ⟨by simp [h.1], fun j e he => ?_⟩
  by_cases hj : i = j
  · subst hj
    by_cases hl : i < δ.length
    · rw [List.getElem?_set_self hl] at he
      cases he
      exact ⟨v, List.getElem?_set_self (by rw [← h.1]; exact hl), .of r⟩
    · rw [List.getElem?_eq_none (by simpa using hl)] at he
      cases he
  · rw [List.getElem?_set_ne hj] at he
    rw [List.getElem?_set_ne hj]
    exact h.2 j e he
/-- the world where o is laid at p for good -/
def Wd.lay (w : Wd) (p : Addr) (o : HO) : Wd := { w with φ := upd w.φ p o }
/-- .. where a new place lies at p -/
def Wd.put (w : Wd) (p : Addr) : Wd := { w with n := w.n + 1, ρ := fun l => if l = w.n then p else w.ρ l }
theorem RelM.free (r : RelM K mg T w μ H) {p : Addr} (hp : H p = none) : w.φ p = none ∧ w.fr p = none ∧ w.gr p = none ∧ ∀ l, l < w.n → w.ρ l ≠ p := by
  refine ⟨?_, ?_, ?_, fun l hl e => ?_⟩
  · cases q : w.φ p with
    | none => rfl
    | some o => rw [r.φ p o q] at hp; cases hp
  · cases q : w.fr p with
    | none => rfl
    | some o => rw [r.fr p o q] at hp; cases hp
  · cases q : w.gr p with
    | none => rfl
    | some o => rw [r.gr p o q] at hp; cases hp
  · have hl' : l < μ.length := r.n ▸ hl
    have q := (r.ob l μ[l] (List.getElem?_eq_getElem hl')).1
    rw [e, hp] at q
    generalize μ[l] = b at q
    cases q
theorem RelM.lay_le (r : RelM K mg T w μ H) {p : Addr} (hp : H p = none) (o : HO) : w.Le (w.lay p o) :=
  ⟨Nat.le_refl _, fun _ _ => rfl, fun a u h => by
    have : a ≠ p := fun e => by rw [e, (r.free hp).1] at h; cases h
    show upd w.φ p o a = _
    rw [upd_ne this]; exact h, rfl, rfl, rfl⟩
theorem tabs_upd {p : Addr} {o : HO} (h : LamX.Tabs T H) (hp : H p = none) : LamX.Tabs T (upd H p o) := h.ext fun b u e => by
  have : b ≠ p := ne_of_none e hp
  rw [upd_ne this]; exact e
theorem RelM.lo_upd (r : RelM K mg T w μ H) {p : Addr} (hp : H p = none) {o : HO} : LkOk w μ (upd H p o) :=
  ⟨fun a u h => ⟨by rw [upd_ne (ne_of_none (r.lo.at_ a u h).1 hp)]; exact (r.lo.at_ a u h).1, (r.lo.at_ a u h).2⟩, r.lo.ln, fun l kvs hl => by
    rw [upd_ne ((r.free hp).2.2.2 l (by rw [r.n]; exact (List.getElem?_eq_some_iff.mp hl).1))]; exact r.lo.lo l kvs hl⟩
theorem RelM.lay (r : RelM K mg T w μ H) {p : Addr} (hp : H p = none) {o : HO} (ho : ∀ ps, o ≠ .tbl ps) : RelM K mg T (w.lay p o) μ (upd H p o) := by
  obtain ⟨f1, f2, fg, f3⟩ := r.free hp
  have le := r.lay_le hp o
  have old : ∀ {a u}, H a = some u → upd H p o a = some u := fun {a u} e => by rw [upd_ne (ne_of_none e hp)]; exact e
  refine ⟨r.n, fun a u h => ?_, fun a u h => old (r.fr a u h), fun a u h => old (r.gr a u h), fun a u h => ?_, fun a u h => ?_, fun l b hb => ?_, fun l hl => (r.gn l hl).imp fun u hu => le.φ _ _ hu, r.inj, tabs_upd r.tabs hp, ⟨fun a u z => ⟨((r.lo_upd hp).at_ a u z).1, (r.lo.at_ a u z).2.1, ?_, (r.lo.at_ a u z).2.2.2⟩, r.lo.ln, (r.lo_upd hp).lo⟩, fun a ps => ?_⟩
  · by_cases e : a = p
    · subst e
      have h' : upd w.φ a o a = some u := h
      rw [upd_same] at h' ⊢; exact h'
    · have h' : upd w.φ p o a = some u := h
      rw [upd_ne e] at h'
      exact old (r.φ a u h')
  · have h' : w.fr a = some u := h
    have : a ≠ p := fun e => by rw [e, f2] at h'; cases h'
    show upd w.φ p o a = none
    rw [upd_ne this]; exact r.dj a u h
  · have h' : w.gr a = some u := h
    have : a ≠ p := fun e => by rw [e, fg] at h'; cases h'
    refine ⟨?_, (r.dg a u h).2⟩
    show upd w.φ p o a = none
    rw [upd_ne this]; exact (r.dg a u h).1
  · obtain ⟨h1, h2⟩ := r.ob l b hb
    have hl : l < w.n := by rw [r.n]; exact (List.getElem?_eq_some_iff.mp hb).1
    have ne : w.ρ l ≠ p := f3 l hl
    refine ⟨?_, fun ng => ⟨?_, (h2 ng).2⟩⟩
    · show RelOb K mg (w.lay p o) b (upd H p o (w.ρ l))
      rw [upd_ne ne]; exact h1.mono le
    · show upd w.φ p o (w.ρ l) = none
      rw [upd_ne ne]; exact (h2 ng).1
  · show upd w.φ p o a = none
    rw [upd_ne (ne_of_none (r.lo.at_ a u z).1 hp)]; exact (r.lo.at_ a u z).2.2.1
  · refine ⟨?_, (r.nt a ps).2⟩
    show upd w.φ p o a ≠ _
    by_cases e : a = p
    · subst e; rw [upd_same]; exact fun z => ho ps (Option.some.inj z)
    · rw [upd_ne e]; exact (r.nt a ps).1
theorem Wd.lay_at {p : Addr} {o : HO} : (w.lay p o).φ p = some o := upd_same
theorem Wd.put_le (w : Wd) (p : Addr) : w.Le (w.put p) := ⟨Nat.le_succ _, fun l h => if_neg (Nat.ne_of_lt h), fun _ _ h => h, rfl, rfl, rfl⟩
theorem Wd.put_at {w : Wd} {p : Addr} : (w.put p).ρ w.n = p := if_pos rfl
theorem RelM.put (r : RelM K mg T w μ H) {p : Addr} (hp : H p = none) {o : HO} {b : Ob} (hb : RelOb K mg w b (some o)) (ng : b ≠ .gone := by nofun) (nl : ∀ kvs, b ≠ .lkd kvs := by nofun) : RelM K mg T (w.put p) (μ ++ [b]) (upd H p o) := by
  obtain ⟨f1, f2, fg, f3⟩ := r.free hp
  have le := w.put_le p
  have old : ∀ {a u}, H a = some u → upd H p o a = some u := fun {a u} e => by rw [upd_ne (ne_of_none e hp)]; exact e
  refine ⟨?_, fun a u h => old (r.φ a u h), fun a u h => old (r.fr a u h), fun a u h => old (r.gr a u h), r.dj, r.dg, fun l c hc => ?_, fun l hl => ?_, fun l l' h h' e => ?_, tabs_upd r.tabs hp, ⟨(r.lo_upd hp).at_, fun l c hl hg hk => ?_, fun l kvs hl => ?_⟩, r.nt⟩
  · show w.n + 1 = _
    simp [r.n]
  · by_cases e : l = w.n
    · subst e
      rw [r.n, List.getElem?_append_right (Nat.le_refl _)] at hc
      simp at hc
      subst hc
      rw [show (w.put p).ρ w.n = p from if_pos rfl]
      rw [upd_same]
      exact ⟨hb.mono le, fun _ => ⟨f1, f2, fg⟩⟩
    · have hl : l < μ.length := by
        have := (List.getElem?_eq_some_iff.mp hc).1
        simp at this
        have := r.n
        omega
      rw [List.getElem?_append_left hl] at hc
      obtain ⟨h1, h2⟩ := r.ob l c hc
      have hn : l < w.n := by rw [r.n]; exact hl
      rw [show (w.put p).ρ l = w.ρ l from if_neg e]
      rw [upd_ne (f3 l hn)]
      exact ⟨h1.mono le, h2⟩
  · by_cases e : l < μ.length
    · rw [List.getElem?_append_left e] at hl
      obtain ⟨u, hu⟩ := r.gn l hl
      refine ⟨u, ?_⟩
      show w.φ ((w.put p).ρ l) = some u
      rw [show (w.put p).ρ l = w.ρ l from if_neg (by have := r.n; omega)]
      exact hu
    · rw [List.getElem?_append_right (by omega)] at hl
      cases k : l - μ.length with
      | zero => rw [k] at hl; cases hl; exact absurd rfl ng
      | succ n => rw [k] at hl; cases hl
  · have h1 : l < w.n + 1 := h
    have h2 : l' < w.n + 1 := h'
    by_cases e1 : l = w.n
    · by_cases e2 : l' = w.n
      · rw [e1, e2]
      · rw [show (w.put p).ρ l = p from if_pos e1, show (w.put p).ρ l' = w.ρ l' from if_neg e2] at e
        exact absurd e.symm (f3 l' (by omega))
    · by_cases e2 : l' = w.n
      · rw [show (w.put p).ρ l = w.ρ l from if_neg e1, show (w.put p).ρ l' = p from if_pos e2] at e
        exact absurd e (f3 l (by omega))
      · rw [show (w.put p).ρ l = w.ρ l from if_neg e1, show (w.put p).ρ l' = w.ρ l' from if_neg e2] at e
        exact r.inj l l' (by omega) (by omega) e
  · show w.lk ((w.put p).ρ l) = none
    by_cases e : l < μ.length
    · rw [List.getElem?_append_left e] at hl
      have hn : l < w.n := by rw [r.n]; exact e
      rw [show (w.put p).ρ l = w.ρ l from if_neg (by omega)]
      exact r.lo.ln l c hl hg hk
    · have e2 : l = w.n := by
        have := (List.getElem?_eq_some_iff.mp hl).1
        simp at this
        have := r.n
        omega
      rw [show (w.put p).ρ l = p from if_pos e2]
      cases z : w.lk p with
      | none => rfl
      | some u => have := (r.lo.at_ p u z).1; rw [hp] at this; cases this
  · by_cases e : l < μ.length
    · rw [List.getElem?_append_left e] at hl
      have hn : l < w.n := by rw [r.n]; exact e
      rw [show (w.put p).ρ l = w.ρ l from if_neg (by omega), upd_ne (f3 l hn)]
      exact r.lo.lo l kvs hl
    · rw [List.getElem?_append_right (by omega)] at hl
      cases k : l - μ.length with
      | zero => rw [k] at hl; cases hl; exact absurd rfl (nl kvs)
      | succ n => rw [k] at hl; cases hl
/-- the object of a changing thing -/
def chg : HO → Bool
  | .lst _ => true
  | .dK _ => true
  | .dT _ => true
  | .ins _ _ _ => true
  | .frz _ _ => true
  | _ => false
theorem RelOb.chg {b : Ob} {o : HO} (ng : b ≠ .gone) (h : RelOb K mg w b (some o)) : chg o = true := by
  cases h with
  | gone => exact absurd rfl ng
  | _ => rfl
theorem tabs_chg {p : Addr} {o o' : HO} (h : LamX.Tabs T H) (hp : H p = some o) (hc : chg o = true) : LamX.Tabs T (upd H p o') := fun q hq => by
  obtain ⟨ps, h1, h2, h3⟩ := h q hq
  have ne : ∀ {a u}, H a = some u → chg u = false → a ≠ p := fun {a u} e z x => by
    rw [x, hp] at e; cases e; rw [hc] at z; cases z
  refine ⟨ps, by rw [upd_ne (ne h1 rfl)]; exact h1, h2, fun pos cv hcv => ?_⟩
  obtain ⟨c, e1, e2⟩ := h3 pos cv hcv
  exact ⟨c, e1, by rw [upd_ne (ne e2 rfl)]; exact e2⟩
theorem RelM.write (r : RelM K mg T w μ H) {l : Nat} {b b' : Ob} {o' : HO} (hl : μ[l]? = some b) (ng : b ≠ .gone) (hb : RelOb K mg w b' (some o')) (ng' : b' ≠ .gone := by nofun) (nl' : ∀ kvs, b' ≠ .lkd kvs := by nofun) (nl : ∀ kvs, b ≠ .lkd kvs := by nofun) : RelM K mg T w (μ.set l b') (upd H (w.ρ l) o') := by
  obtain ⟨h1, hng⟩ := r.ob l b hl
  obtain ⟨h2, h3, h4⟩ := hng ng
  have hlt : l < μ.length := (List.getElem?_eq_some_iff.mp hl).1
  obtain ⟨o, ho⟩ : ∃ o, H (w.ρ l) = some o := by
    cases e : H (w.ρ l) with
    | none => rw [e] at h1; cases h1
    | some o => exact ⟨o, rfl⟩
  have hc : chg o = true := by rw [ho] at h1; exact h1.chg ng
  refine ⟨by simp [r.n], fun a u h => ?_, fun a u h => ?_, fun a u h => ?_, r.dj, r.dg, fun l' c hc' => ?_, fun l' hl' => ?_, r.inj, tabs_chg r.tabs ho hc, ⟨fun a u z => ⟨?_, (r.lo.at_ a u z).2⟩, fun l' c hl' hg hk => ?_, fun l' kvs hl' => ?_⟩, r.nt⟩
  · rw [upd_ne (fun e => by rw [e, h2] at h; cases h)]; exact r.φ a u h
  · rw [upd_ne (fun e => by rw [e, h3] at h; cases h)]; exact r.fr a u h
  · rw [upd_ne (fun e => by rw [e, h4] at h; cases h)]; exact r.gr a u h
  · by_cases e : l = l'
    · subst e
      rw [List.getElem?_set_self hlt] at hc'
      cases hc'
      rw [upd_same]
      exact ⟨hb, fun _ => ⟨h2, h3, h4⟩⟩
    · rw [List.getElem?_set_ne e] at hc'
      have hlt' : l' < μ.length := (List.getElem?_eq_some_iff.mp hc').1
      have ne : w.ρ l' ≠ w.ρ l := fun z => e (r.inj l l' (by rw [r.n]; exact hlt) (by rw [r.n]; exact hlt') z.symm)
      rw [upd_ne ne]
      exact r.ob l' c hc'
  · by_cases e : l = l'
    · subst e
      rw [List.getElem?_set_self hlt] at hl'
      exact absurd (Option.some.inj hl') ng'
    · rw [List.getElem?_set_ne e] at hl'
      exact r.gn l' hl'
  · rw [upd_ne (fun e => by rw [e, r.lo.ln l b hl ng nl] at z; cases z)]
    exact (r.lo.at_ a u z).1
  · by_cases e : l = l'
    · subst e
      exact r.lo.ln l b hl ng nl
    · rw [List.getElem?_set_ne e] at hl'
      exact r.lo.ln l' c hl' hg hk
  · by_cases e : l = l'
    · subst e
      rw [List.getElem?_set_self hlt] at hl'
      exact absurd (Option.some.inj hl') (nl' kvs)
    · rw [List.getElem?_set_ne e] at hl'
      have hlt' : l' < μ.length := (List.getElem?_eq_some_iff.mp hl').1
      rw [upd_ne (fun z => e (r.inj l l' (by rw [r.n]; exact hlt) (by rw [r.n]; exact hlt') z.symm))]
      exact r.lo.lo l' kvs hl'
end
section
variable {K : PySem.W.Frag} {mg : Str → Option Value} {w w' : Wd} {T : List (Addr × Str)} {μ : Mem} {H : Hp}
/-- what is being made, at p -/
def Wd.grow (w : Wd) (p : Addr) (o : HO) : Wd := { w with gr := upd w.gr p o }
theorem Wd.grow_lw (w : Wd) (p : Addr) (o : HO) : w.Lw (w.grow p o) := ⟨Nat.le_refl _, fun _ _ => rfl, fun _ _ h => h, rfl, rfl⟩
theorem grow_nt {g : Hp} {p : Addr} {o : HO} (h : ∀ a ps, g a ≠ some (.tbl ps)) (ho : ∀ ps, o ≠ .tbl ps) : ∀ a ps, upd g p o a ≠ some (.tbl ps) := fun a ps => by
  by_cases e : a = p
  · subst e; rw [upd_same]; exact fun z => ho ps (Option.some.inj z)
  · rw [upd_ne e]; exact h a ps
theorem grow_ne {g : Hp} {p : Addr} {o : HO} (h : ∀ a f, g a ≠ some (.ext f)) (he : ∀ f, o ≠ .ext f) : ∀ a f, upd g p o a ≠ some (.ext f) := fun a f => by
  by_cases e : a = p
  · subst e; rw [upd_same]; exact fun z => he f (Option.some.inj z)
  · rw [upd_ne e]; exact h a f
theorem RelM.grow (r : RelM K mg T w μ H) {p : Addr} (hp : H p = none) (o : HO) (ho : ∀ ps, o ≠ .tbl ps := by nofun) (he : ∀ f, o ≠ .ext f := by nofun) : RelM K mg T (w.grow p o) μ (upd H p o) := by
  obtain ⟨f1, f2, fg, f3⟩ := r.free hp
  have old : ∀ {a u}, H a = some u → upd H p o a = some u := fun {a u} e => by rw [upd_ne (ne_of_none e hp)]; exact e
  refine ⟨r.n, fun a u h => old (r.φ a u h), fun a u h => old (r.fr a u h), fun a u h => ?_, r.dj, fun a u h => ?_, fun l b hb => ?_, r.gn, r.inj, tabs_upd r.tabs hp, ⟨fun a u z => ⟨((r.lo_upd hp).at_ a u z).1, ?_, (r.lo.at_ a u z).2.2⟩, r.lo.ln, (r.lo_upd hp).lo⟩, fun a ps => ⟨(r.nt a ps).1, (r.nt a ps).2.1, grow_nt (fun a ps => (r.nt a ps).2.2.1) ho a ps, grow_ne (fun a f => (r.nt a #[]).2.2.2 f) he a⟩⟩
  · have h' : upd w.gr p o a = some u := h
    by_cases e : a = p
    · subst e
      rw [upd_same] at h' ⊢; exact h'
    · rw [upd_ne e] at h'
      exact old (r.gr a u h')
  · have h' : upd w.gr p o a = some u := h
    by_cases e : a = p
    · subst e
      exact ⟨f1, f2⟩
    · rw [upd_ne e] at h'
      exact r.dg a u h'
  · obtain ⟨h1, h2⟩ := r.ob l b hb
    have hl : l < w.n := by rw [r.n]; exact (List.getElem?_eq_some_iff.mp hb).1
    have ne : w.ρ l ≠ p := f3 l hl
    refine ⟨?_, fun ng => ⟨(h2 ng).1, (h2 ng).2.1, ?_⟩⟩
    · show RelOb K mg (w.grow p o) b (upd H p o (w.ρ l))
      rw [upd_ne ne]; exact h1.monoW (w.grow_lw p o)
    · show upd w.gr p o (w.ρ l) = none
      rw [upd_ne ne]; exact (h2 ng).2.2
  · show upd w.gr p o a = none
    rw [upd_ne (ne_of_none (r.lo.at_ a u z).1 hp)]; exact (r.lo.at_ a u z).2.1
theorem RelM.regrow (r : RelM K mg T w μ H) {p : Addr} {o : HO} (hp : w.gr p = some o) (hc : chg o = true) (o' : HO) (ho : ∀ ps, o' ≠ .tbl ps := by nofun) (he : ∀ f, o' ≠ .ext f := by nofun) : RelM K mg T (w.grow p o') μ (upd H p o') := by
  have hH := r.gr p o hp
  obtain ⟨f1, f2⟩ := r.dg p o hp
  have np : ∀ {a u}, w.φ a = some u → a ≠ p := fun {a u} e z => by rw [z, f1] at e; cases e
  have nf : ∀ {a u}, w.fr a = some u → a ≠ p := fun {a u} e z => by rw [z, f2] at e; cases e
  have nl : ∀ l b, μ[l]? = some b → w.ρ l ≠ p ∨ b = .gone := fun l b hb => by
    by_cases ng : b = .gone
    · exact .inr ng
    · left
      intro z
      have := ((r.ob l b hb).2 ng).2.2
      rw [z, hp] at this
      cases this
  refine ⟨r.n, fun a u h => by rw [upd_ne (np h)]; exact r.φ a u h, fun a u h => by rw [upd_ne (nf h)]; exact r.fr a u h, fun a u h => ?_, r.dj, fun a u h => ?_, fun l b hb => ?_, r.gn, r.inj, tabs_chg r.tabs hH hc, ⟨fun a u z => ?_, r.lo.ln, fun l kvs hl => by show upd H p o' (w.ρ l) = w.lk (w.ρ l); rw [upd_ne ((nl l _ hl).resolve_right nofun)]; exact r.lo.lo l kvs hl⟩, fun a ps => ⟨(r.nt a ps).1, (r.nt a ps).2.1, grow_nt (fun a ps => (r.nt a ps).2.2.1) ho a ps, grow_ne (fun a f => (r.nt a #[]).2.2.2 f) he a⟩⟩
  · have h' : upd w.gr p o' a = some u := h
    by_cases e : a = p
    · subst e
      rw [upd_same] at h' ⊢; exact h'
    · rw [upd_ne e] at h' ⊢
      exact r.gr a u h'
  · have h' : upd w.gr p o' a = some u := h
    by_cases e : a = p
    · subst e
      exact ⟨f1, f2⟩
    · rw [upd_ne e] at h'
      exact r.dg a u h'
  · obtain ⟨h1, h2⟩ := r.ob l b hb
    rcases nl l b hb with ne | rfl
    · refine ⟨?_, fun ng => ⟨(h2 ng).1, (h2 ng).2.1, ?_⟩⟩
      · show RelOb K mg (w.grow p o') b (upd H p o' (w.ρ l))
        rw [upd_ne ne]; exact h1.monoW (w.grow_lw p o')
      · show upd w.gr p o' (w.ρ l) = none
        rw [upd_ne ne]; exact (h2 ng).2.2
    · refine ⟨?_, fun ng => absurd rfl ng⟩
      show RelOb K mg (w.grow p o') .gone (upd H p o' (w.ρ l))
      by_cases z : w.ρ l = p
      · rw [z, upd_same]; exact .gone
      · rw [upd_ne z]; exact h1.monoW (w.grow_lw p o')
  · obtain ⟨z1, z2, z3⟩ := r.lo.at_ a u z
    have ne : a ≠ p := fun e => by rw [e, hp] at z2; cases z2
    exact ⟨by rw [upd_ne ne]; exact z1, by show upd w.gr p o' a = none; rw [upd_ne ne]; exact z2, z3⟩
/-- it is made: laid for good -/
def Wd.done (w : Wd) (p : Addr) (o : HO) (g : Hp) : Wd := { w with φ := upd w.φ p o, gr := g }
theorem RelM.done (r : RelM K mg T w μ H) {p : Addr} {o : HO} {g : Hp} (hp : w.gr p = some o) (hg : ∀ a, a ≠ p → g a = w.gr a) (gp : g p = none) (ho : ∀ ps, o ≠ .tbl ps) : RelM K mg T (w.done p o g) μ H := by
  have hH := r.gr p o hp
  obtain ⟨f1, f2⟩ := r.dg p o hp
  have lw : w.Lw (w.done p o g) := ⟨Nat.le_refl _, fun _ _ => rfl, fun a u h => by
    have : a ≠ p := fun e => by rw [e, f1] at h; cases h
    show upd w.φ p o a = _
    rw [upd_ne this]; exact h, rfl, rfl⟩
  have gg : ∀ {a u}, g a = some u → a ≠ p ∧ w.gr a = some u := fun {a u} h => by
    have : a ≠ p := fun e => by rw [e, gp] at h; cases h
    exact ⟨this, by rw [← hg a this]; exact h⟩
  refine ⟨r.n, fun a u h => ?_, r.fr, fun a u h => r.gr a u (gg h).2, fun a u h => ?_, fun a u h => ?_, fun l b hb => ?_, fun l hl => (r.gn l hl).imp fun u hu => lw.φ _ _ hu, r.inj, r.tabs, ⟨fun a u z => ⟨(r.lo.at_ a u z).1, ?_, ?_, (r.lo.at_ a u z).2.2.2⟩, r.lo.ln, r.lo.lo⟩, fun a ps => ?_⟩
  · have h' : upd w.φ p o a = some u := h
    by_cases e : a = p
    · subst e; rw [upd_same] at h'; cases h'; exact hH
    · rw [upd_ne e] at h'; exact r.φ a u h'
  · have h' : w.fr a = some u := h
    have : a ≠ p := fun e => by rw [e, f2] at h'; cases h'
    show upd w.φ p o a = none
    rw [upd_ne this]; exact r.dj a u h
  · obtain ⟨h1, h2⟩ := gg h
    refine ⟨?_, (r.dg a u h2).2⟩
    show upd w.φ p o a = none
    rw [upd_ne h1]; exact (r.dg a u h2).1
  · obtain ⟨h1, h2⟩ := r.ob l b hb
    refine ⟨h1.monoW lw, fun ng => ?_⟩
    obtain ⟨k1, k2, k3⟩ := h2 ng
    have ne : w.ρ l ≠ p := fun z => by rw [z, hp] at k3; cases k3
    refine ⟨?_, k2, ?_⟩
    · show upd w.φ p o (w.ρ l) = none
      rw [upd_ne ne]; exact k1
    · show g (w.ρ l) = none
      rw [hg _ ne]; exact k3
  · show g a = none
    by_cases e : a = p
    · rw [e]; exact gp
    · rw [hg a e]; exact (r.lo.at_ a u z).2.1
  · show upd w.φ p o a = none
    rw [upd_ne (fun e => by have := (r.lo.at_ a u z).2.1; rw [e, hp] at this; cases this)]; exact (r.lo.at_ a u z).2.2.1
  · exact ⟨grow_nt (fun a ps => (r.nt a ps).1) ho a ps, (r.nt a ps).2.1, fun z => (r.nt a ps).2.2.1 (gg z).2, fun f z => (r.nt a ps).2.2.2 f (gg z).2⟩
end
def Out.to {α : Type} (o : Out α) (Q : α → Mem → Prop) (E : Xn → Mem → Prop) : Prop := match o with
  | .ok a μ => Q a μ
  | .exc x μ => E x μ
  | .stuck => False
def Out.bind {α β : Type} (o : Out α) (f : α → Mem → Out β) : Out β := match o with
  | .ok a μ => f a μ
  | .exc x μ => .exc x μ
  | .stuck => .stuck
theorem Out.to_mono {α : Type} {o : Out α} {Q Q' E E'} (h : o.to Q E) (hQ : ∀ a μ, Q a μ → Q' a μ) (hE : ∀ a μ, E a μ → E' a μ) : o.to Q' E' := by
  cases o with
  | ok a μ => exact hQ _ _ h
  | exc x μ => exact hE _ _ h
  | stuck => exact h
abbrev EM := Sv → Mem → Out D
abbrev TM := Sv → Mem → Out Bool
abbrev AM := Sv → Mem → Out (List D)
section
variable (K : PySem.W.Frag) (mg : Str → Option Value) (S : SI) (W : WX)
/-- the state of the world ahead of what is left to be done -/
def At {α β : Type} (R : Wd → α → β → Prop) (σ : L2.St) (Q : β → Hp → Prop) (w : Wd) (δ : Sv) (μ : Mem) (H : Hp) (o : Out α) : Prop :=
  RelSv K mg S w δ σ ∧ RelM K mg S.T w μ H ∧
    o.to (fun d μ' => ∀ w' v H', w.Le w' → RelM K mg S.T w' μ' H' → R w' d v → Q v H') (fun x μ' => ∀ w' cls dd H', w.Le w' → RelM K mg S.T w' μ' H' → RelX K mg w' x cls dd → W cls dd σ H')
/-- the reading of a piece of code that does what m says -/
def tM {α β : Type} (R : Wd → α → β → Prop) (m : Sv → Mem → Out α) : L2.St → Hp → (β → Hp → Prop) → Prop := fun σ H Q => ∃ w δ μ, At K mg S W R σ Q w δ μ H (m δ μ)
abbrev tE (m : EM) : TE := tM K mg S W (RelD K mg) m
abbrev tT (m : TM) : TT := tM K mg S W (fun _ (a b : Bool) => a = b) m
abbrev tA (m : AM) : TA := tM K mg S W (RelDs K mg) m
end
section
variable {K : PySem.W.Frag} {mg : Str → Option Value} {S : SI} {W : WX} {α β γ ε : Type} {R : Wd → α → β → Prop} {R' : Wd → γ → ε → Prop} {σ : L2.St} {w : Wd} {δ : Sv} {μ : Mem} {H : Hp}
/-- one piece, then the rest -/
theorem At.bind {o : Out α} {f : α → Mem → Out γ} {Q : ε → Hp → Prop} (h : At K mg S W R' σ Q w δ μ H (o.bind f)) :
    At K mg S W R σ (fun v H1 => ∃ w1 μ1 d, w.Le w1 ∧ R w1 d v ∧ At K mg S W R' σ Q w1 δ μ1 H1 (f d μ1)) w δ μ H o := by
  obtain ⟨h1, h2, h3⟩ := h
  refine ⟨h1, h2, ?_⟩
  cases o with
  | stuck => exact h3
  | exc x μ' => exact h3
  | ok a μ' =>
    intro w' v H' le rm rd
    refine ⟨w', μ', a, le, rd, h1.mono le, rm, ?_⟩
    exact Out.to_mono (show (f a μ').to _ _ from h3) (fun d μ2 q w2 v2 H2 le2 => q w2 v2 H2 (le.trans le2)) (fun x μ2 q w2 c d H2 le2 => q w2 c d H2 (le.trans le2))
theorem At.mono {o : Out α} {Q Q' : β → Hp → Prop} (h : At K mg S W R σ Q w δ μ H o) (hQ : ∀ v H', Q v H' → Q' v H') : At K mg S W R σ Q' w δ μ H o :=
  ⟨h.1, h.2.1, Out.to_mono h.2.2 (fun _ _ q w' v H' a b c => hQ _ _ (q w' v H' a b c)) fun _ _ q => q⟩
theorem At.tM {m : Sv → Mem → Out α} {Q : β → Hp → Prop} (h : At K mg S W R σ Q w δ μ H (m δ μ)) : tM K mg S W R m σ H Q := ⟨w, δ, μ, h⟩
end
end Kw
set_option Elab.async false
set_option linter.all false
set_option maxRecDepth 100000
namespace Kw
open PySem PySem.Spec PyProof.Rows L2
section
variable {X : Cx}
theorem PEi {e : Expr} {t t' : TE} (h : PE X e t') (i : ∀ σ H Q, t σ H Q → t' σ H Q) : PE X e t := ⟨fun pins s σ H Q I q => h.run pins s σ H Q I (i _ _ _ q)⟩
theorem PTi {e : Expr} {t t' : TT} (h : PT X e t') (i : ∀ σ H Q, t σ H Q → t' σ H Q) : PT X e t := ⟨fun pins s σ H Q I q => h.run pins s σ H Q I (i _ _ _ q)⟩
theorem PAi {e : List Expr} {t t' : TA} (h : PA X e t') (i : ∀ σ H Q, t σ H Q → t' σ H Q) : PA X e t := ⟨fun pos pins s σ H Q I q => h.run pos pins s σ H Q I (i _ _ _ q)⟩
theorem PKi {e : List Keyword} {t t' : TA} (h : PK X e t') (i : ∀ σ H Q, t σ H Q → t' σ H Q) : PK X e t := ⟨fun pos pins s σ H Q I q => h.run pos pins s σ H Q I (i _ _ _ q)⟩
theorem PSi {e : Stmt} {t t' : TS} (h : PS X e t') (i : ∀ D σ H, t D σ H → t' D σ H) : PS X e t := ⟨fun pins s σ H D I q => h.run pins s σ H D I (i _ _ _ q)⟩
theorem PSsi {e : List Stmt} {t t' : TS} (h : PSs X e t') (i : ∀ D σ H, t D σ H → t' D σ H) : PSs X e t := ⟨fun pins s σ H D I q => h.run pins s σ H D I (i _ _ _ q)⟩
end
/-- the items of a list (as it stands), of one that was made here, of a tuple -/
def lstOf (μ : Mem) : D → Option (List D)
  | .lst xs => some xs
  | .scr xs => some xs
  | .loc l => match μ[l]? with
    | some (.lst xs) => some xs
    | _ => none
  | _ => none
def lstX (μ : Mem) : D → Option (List D)
  | .lst xs => some xs
  | .loc l => match μ[l]? with
    | some (.lst xs) => some xs
    | _ => none
  | _ => none
def tupOf : D → Option (List D)
  | .tup xs => some xs
  | _ => none
def seqOf (μ : Mem) (d : D) : Option (List D) := match d with
  | .tup xs => some xs
  | d => lstOf μ d
section
variable {K : PySem.W.Frag} {mg : Str → Option Value} {w w' : Wd} {T : List (Addr × Str)} {μ : Mem} {H : Hp}
theorem RelM.lst (r : RelM K mg T w μ H) {l : Nat} {xs : List D} (h : μ[l]? = some (.lst xs)) : ∃ vs, H (w.ρ l) = some (.lst vs) ∧ RelDs K mg w xs vs := by
  have q := (r.ob l _ h).1
  generalize e : H (w.ρ l) = o at q
  cases q with
  | lst rs => exact ⟨_, rfl, rs⟩
theorem scr_H (r : RelM K mg T w μ H) {a : Addr} {vs : List V} (e : SqL K w.φ a vs ∨ w.fr a = some (.lst vs)) : SqL K H a vs := e.elim (sqL_mono r.φ) fun h => .inl (.inl (r.fr _ _ h))
theorem lstOf_rel (r : RelM K mg T w μ H) {d : D} {v : V} {xs : List D} (rd : RelD K mg w d v) (h : lstOf μ d = some xs) : ∃ a vs, v = .ref a ∧ SqL K H a vs ∧ RelDs K mg w xs vs := by
  cases rd with
  | lst e rs => cases h; exact ⟨_, _, rfl, .inl (.inl (r.φ _ _ e)), rs⟩
  | scr e rs => cases h; exact ⟨_, _, rfl, scr_H r e, rs⟩
  | @loc l hl =>
    simp only [lstOf] at h
    split at h
    · next ys q =>
      cases h
      obtain ⟨vs, h1, h2⟩ := r.lst q
      exact ⟨_, vs, rfl, .inl (.inl h1), h2⟩
    · cases h
  | _ => cases h
theorem lstX_rel (r : RelM K mg T w μ H) {d : D} {v : V} {xs : List D} (rd : RelD K mg w d v) (h : lstX μ d = some xs) : ∃ a vs, v = .ref a ∧ H a = some (.lst vs) ∧ RelDs K mg w xs vs := by
  cases rd with
  | lst e rs => cases h; exact ⟨_, _, rfl, r.φ _ _ e, rs⟩
  | @loc l hl =>
    simp only [lstX] at h
    split at h
    · next ys q =>
      cases h
      obtain ⟨vs, h1, h2⟩ := r.lst q
      exact ⟨_, vs, rfl, h1, h2⟩
    · cases h
  | _ => cases h
theorem tupOf_rel (r : RelM K mg T w μ H) {d : D} {v : V} {xs : List D} (rd : RelD K mg w d v) (h : tupOf d = some xs) : ∃ a vs, v = .ref a ∧ SqT K H a vs ∧ RelDs K mg w xs vs := by
  cases rd with
  | tup e rs => cases h; exact ⟨_, _, rfl, sqT_mono r.φ e, rs⟩
  | _ => cases h
theorem seqOf_rel (r : RelM K mg T w μ H) {d : D} {v : V} {xs : List D} (rd : RelD K mg w d v) (h : seqOf μ d = some xs) : ∃ a vs, v = .ref a ∧ (SqL K H a vs ∨ SqT K H a vs) ∧ RelDs K mg w xs vs := by
  unfold seqOf at h
  split at h
  · cases h
    obtain ⟨a, vs, h1, h2, h3⟩ := tupOf_rel r rd rfl
    exact ⟨a, vs, h1, .inr h2, h3⟩
  · obtain ⟨a, vs, h1, h2, h3⟩ := lstOf_rel r rd h
    exact ⟨a, vs, h1, .inl h2, h3⟩
theorem RelDs.get : ∀ {ds : List D} {vs : List V}, RelDs K mg w ds vs → ∀ {i : Nat} {d : D}, ds[i]? = some d → ∃ v, vs[i]? = some v ∧ RelD K mg w d v
  | _, _, .nil, i, d, e => by simp at e
  | _, _, .cons h t, 0, d, e => by cases e; exact ⟨_, rfl, h⟩
  | _, _, .cons h t, i + 1, d, e => RelDs.get t (i := i) e
theorem RelDs.append : ∀ {ds es : List D} {vs us : List V}, RelDs K mg w ds vs → RelDs K mg w es us → RelDs K mg w (ds ++ es) (vs ++ us)
  | _, _, _, _, .nil, h => h
  | _, _, _, _, .cons a t, h => .cons a (t.append h)
theorem RelDs.one {d : D} {v : V} (h : RelD K mg w d v) : RelDs K mg w [d] [v] := .cons h .nil
theorem RelDs.drop : ∀ (n : Nat) {ds : List D} {vs : List V}, RelDs K mg w ds vs → RelDs K mg w (ds.drop n) (vs.drop n)
  | 0, _, _, h => by simpa using h
  | n + 1, _, _, .nil => by simpa using RelDs.nil
  | n + 1, _, _, .cons _ t => by simpa using t.drop n
theorem RelDs.take : ∀ (n : Nat) {ds : List D} {vs : List V}, RelDs K mg w ds vs → RelDs K mg w (ds.take n) (vs.take n)
  | 0, _, _, h => by simpa using RelDs.nil
  | n + 1, _, _, .nil => by simpa using RelDs.nil
  | n + 1, _, _, .cons a t => by simpa using RelDs.cons a (t.take n)
theorem RelDs.reverse : ∀ {ds : List D} {vs : List V}, RelDs K mg w ds vs → RelDs K mg w ds.reverse vs.reverse
  | _, _, .nil => .nil
  | _, _, .cons a t => by simpa using t.reverse.append (.one a)
theorem RelDs.set : ∀ {ds : List D} {vs : List V}, RelDs K mg w ds vs → ∀ (i : Nat) {d : D} {v : V}, RelD K mg w d v → RelDs K mg w (ds.set i d) (vs.set i v)
  | _, _, .nil, _, _, _, _ => .nil
  | _, _, .cons a t, 0, _, _, h => .cons h t
  | _, _, .cons a t, i + 1, _, _, h => .cons a (t.set i h)
theorem RelDs.eraseIdx : ∀ {ds : List D} {vs : List V}, RelDs K mg w ds vs → ∀ (i : Nat), RelDs K mg w (ds.eraseIdx i) (vs.eraseIdx i)
  | _, _, .nil, _ => .nil
  | _, _, .cons a t, 0 => t
  | _, _, .cons a t, i + 1 => .cons a (t.eraseIdx i)
theorem RelDs.atI {ds : List D} {vs : List V} (h : RelDs K mg w ds vs) {i : Int} {d : D} (e : atI ds i = some d) : ∃ v, L2.atI vs i = some v ∧ RelD K mg w d v := by
  unfold L2.atI at e ⊢
  rw [← h.length]
  cases q : ixN ds.length i with
  | none => rw [q] at e; cases e
  | some j => rw [q] at e; exact h.get e
theorem RelDs.cutV {ds : List D} {vs : List V} (h : RelDs K mg w ds vs) (lo hi : Option Int) : RelDs K mg w ((ds.drop (HT.sIx ds.length 0 lo)).take (HT.sIx ds.length ds.length hi - HT.sIx ds.length 0 lo)) (L2.cutV vs lo hi) := by
  unfold L2.cutV
  rw [← h.length]
  exact (h.drop _).take _
end
end Kw
set_option Elab.async false
set_option linter.all false
set_option maxRecDepth 100000
namespace Kw
open PySem PySem.Spec PyProof.Rows L2
def oOf (o : Option D) (μ : Mem) : Out D := match o with
  | some d => .ok d μ
  | none => .stuck
def oOfM (o : Option (D × Mem)) : Out D := match o with
  | some (d, μ) => .ok d μ
  | none => .stuck
section
variable (K : PySem.W.Frag) (mg : Str → Option Value) (T : List (Addr × Str))
/-- a value d comes, the memory as it is -/
def Then1 (w : Wd) (μ : Mem) (Q : VK) (d : D) : Prop := ∀ w' v H', w.Le w' → RelM K mg T w' μ H' → RelD K mg w' d v → Q v H'
def rD2 (g : D → D → Mem → Option D) : R2 := fun x y H Q => ∃ w μ dx dy d, RelM K mg T w μ H ∧ RelD K mg w dx x ∧ RelD K mg w dy y ∧ g dx dy μ = some d ∧ Then1 K mg T w μ Q d
def rD1 (g : D → Mem → Option D) : V → Hp → VK → Prop := fun x H Q => ∃ w μ dx d, RelM K mg T w μ H ∧ RelD K mg w dx x ∧ g dx μ = some d ∧ Then1 K mg T w μ Q d
def rDs (g : List D → Mem → Option D) : List V → Hp → VK → Prop := fun xs H Q => ∃ w μ ds d, RelM K mg T w μ H ∧ RelDs K mg w ds xs ∧ g ds μ = some d ∧ Then1 K mg T w μ Q d
def rDm (g : D → List D → Mem → Option (D × Mem)) : V → List V → Hp → VK → Prop := fun x xs H Q => ∃ w μ dx ds d μ', RelM K mg T w μ H ∧ RelD K mg w dx x ∧ RelDs K mg w ds xs ∧ g dx ds μ = some (d, μ') ∧ Then1 K mg T w μ' Q d
end
section
variable {K : PySem.W.Frag} {mg : Str → Option Value} {S : SI} {W : WX} {T : List (Addr × Str)} {w : Wd} {μ : Mem} {H : Hp} {Q : VK} {σ : L2.St} {δ : Sv}
theorem Then1.same {d : D} {v : V} (q : Then1 K mg T w μ Q d) (r : RelM K mg T w μ H) (rd : RelD K mg w d v) : Q v H := q w v H (Wd.Le.refl _) r rd
theorem Then1.lst {ds : List D} {vs : List V} (q : Then1 K mg T w μ Q (.lst ds)) (r : RelM K mg T w μ H) (rs : RelDs K mg w ds vs) : ∀ p, H p = none → Q (.ref p) (upd H p (.lst vs)) := fun p hp =>
  q (w.lay p (.lst vs)) _ _ (r.lay_le hp _) (r.lay hp (fun _ => nofun)) (.lst Wd.lay_at (RelDs.mono (r.lay_le hp _) rs))
theorem Then1.tup {ds : List D} {vs : List V} (q : Then1 K mg T w μ Q (.tup ds)) (r : RelM K mg T w μ H) (rs : RelDs K mg w ds vs) : ∀ p, H p = none → Q (.ref p) (upd H p (.tup vs)) := fun p hp =>
  q (w.lay p (.tup vs)) _ _ (r.lay_le hp _) (r.lay hp (fun _ => nofun)) (.tup (.inl (.inl Wd.lay_at)) (RelDs.mono (r.lay_le hp _) rs))
theorem At.opt {o : Option D} (h : At K mg S W (RelD K mg) σ Q w δ μ H (oOf o μ)) : ∃ d, o = some d ∧ Then1 K mg S.T w μ Q d := by
  cases o with
  | none => exact h.2.2.elim
  | some d => exact ⟨d, rfl, h.2.2⟩
theorem At.optM {o : Option (D × Mem)} (h : At K mg S W (RelD K mg) σ Q w δ μ H (oOfM o)) : ∃ d μ', o = some (d, μ') ∧ Then1 K mg S.T w μ' Q d := by
  cases o with
  | none => exact h.2.2.elim
  | some d => exact ⟨d.1, d.2, rfl, h.2.2⟩
end
abbrev TEm (X : Cx) (S : SI) (W : WX) (m : EM) : TE := tE X.K X.mg S W m
abbrev TTm (X : Cx) (S : SI) (W : WX) (m : TM) : TT := tT X.K X.mg S W m
abbrev TAm (X : Cx) (S : SI) (W : WX) (m : AM) : TA := tA X.K X.mg S W m
def eVar (i : Nat) : EM := fun δ μ => match δ[i]? with
  | some (some d) => match d with
    | .lam => .stuck
    | .exc _ _ => .stuck
    | d => .ok d μ
  | _ => .stuck
def eC (d : D) : EM := fun _ μ => .ok d μ
def e1 (g : D → Mem → Option D) (ma : EM) : EM := fun δ μ => (ma δ μ).bind fun x μ1 => oOf (g x μ1) μ1
def e2 (g : D → D → Mem → Option D) (ma mb : EM) : EM := fun δ μ => (ma δ μ).bind fun x μ1 => (mb δ μ1).bind fun y μ2 => oOf (g x y μ2) μ2
def eAs (g : List D → Mem → Option D) (ma : AM) : EM := fun δ μ => (ma δ μ).bind fun xs μ1 => oOf (g xs μ1) μ1
def aNil : AM := fun _ μ => .ok [] μ
def aCons (ma : EM) (mr : AM) : AM := fun δ μ => (ma δ μ).bind fun x μ1 => (mr δ μ1).bind fun xs μ2 => .ok (x :: xs) μ2
def truD (μ : Mem) : D → Option Bool
  | .non => some false
  | .bl b => some b
  | .int i => some (i != 0)
  | .str y => if y.length ≤ sizeLine then some ((y.length : Int) != 0) else none
  | .tup xs => some !xs.isEmpty
  | .lst xs => some !xs.isEmpty
  | .scr xs => some !xs.isEmpty
  | .dct kvs => none
  | .loc l => match μ[l]? with
    | some (.lst xs) => some !xs.isEmpty
    | some (.dct kvs) => some !kvs.isEmpty
    | _ => none
  | _ => none
def bOf (o : Option Bool) (μ : Mem) : Out Bool := match o with
  | some d => .ok d μ
  | none => .stuck
/-- a test: the value's truth -/
def tTru (ma : EM) : TM := fun δ μ => (ma δ μ).bind fun x μ1 => bOf (truD μ1 x) μ1
def tNotM (ma : TM) : TM := fun δ μ => (ma δ μ).bind fun b μ1 => .ok (!b) μ1
def tAndM (ma mb : TM) : TM := fun δ μ => (ma δ μ).bind fun b μ1 => if b = true then mb δ μ1 else .ok false μ1
def tOrM (ma mb : TM) : TM := fun δ μ => (ma δ μ).bind fun b μ1 => if b = true then .ok true μ1 else mb δ μ1
def eNotM (ma : EM) : EM := fun δ μ => (ma δ μ).bind fun x μ1 => (bOf (truD μ1 x) μ1).bind fun b μ2 => .ok (.bl !b) μ2
def eAndM (ma mb : EM) : EM := fun δ μ => (ma δ μ).bind fun x μ1 => (bOf (truD μ1 x) μ1).bind fun b μ2 => if b = true then mb δ μ2 else .ok x μ2
def eOrM (ma mb : EM) : EM := fun δ μ => (ma δ μ).bind fun x μ1 => (bOf (truD μ1 x) μ1).bind fun b μ2 => if b = true then .ok x μ2 else mb δ μ2
def eIfM (mt : TM) (ma mb : EM) : EM := fun δ μ => (mt δ μ).bind fun b μ1 => if b = true then ma δ μ1 else mb δ μ1
section
variable {X : Cx} {S : SI} {W : WX} {a b c e : Expr} {es : List Expr} {ma mb : EM} {mt mu : TM} {mr : AM} {pos p apos : Pos} {x : Str}
theorem pe_var' {i : Nat} (hN : X.N[i]? = some x) (hv : Vis X.env.scope x) (hd : (x == ("__debug__" : Str)) = false := by decide) (hcd : (x == ("__classdict__" : Str)) = false := by decide) : PE X (.Name x pos) (TEm X S W <| eVar i) :=
  PEi (pe_var hN hv hd hcd) fun σ H Q ⟨w, δ, μ, h⟩ => by
    have h3 := h.2.2
    unfold eVar at h3
    split at h3
    · next d hd =>
      obtain ⟨v, hv, rv⟩ := h.1.2 i d hd
      refine ⟨v, hv, ?_⟩
      split at h3
      · exact h3.elim
      · exact h3.elim
      · next n1 n2 =>
        refine h3 w v H (Wd.Le.refl _) h.2.1 ?_
        cases d with
        | lam => exact absurd rfl n1
        | exc c fs => exact absurd rfl (n2 c fs)
        | _ => exact rv
    · exact h3.elim
theorem pe_C' {d : D} {v : V} (h : PE X e (tC v)) (r : ∀ w, RelD X.K X.mg w d v) : PE X e (TEm X S W <| eC d) :=
  PEi h fun σ H Q ⟨w, δ, μ, h⟩ => h.2.2 w v H (Wd.Le.refl _) h.2.1 (r w)
theorem pe_1 {r : V → Hp → VK → Prop} {g : D → Mem → Option D} (h : ∀ t, PE X a t → PE X e (fun σ H Q => t σ H fun x H1 => r x H1 Q)) (hr : ∀ x H Q, rD1 X.K X.mg S.T g x H Q → r x H Q) (ha : PE X a (TEm X S W <| ma)) : PE X e (TEm X S W <| e1 g ma) :=
  PEi (h _ ha) fun σ H Q ⟨w, δ, μ, h⟩ => ⟨w, δ, μ, (At.bind h).mono fun x H1 ⟨w1, μ1, d, le, rd, h1⟩ => by
    obtain ⟨z, e, q⟩ := h1.opt
    exact hr _ _ _ ⟨w1, μ1, d, z, h1.2.1, rd, e, q⟩⟩
theorem pe_2 {r : R2} {g : D → D → Mem → Option D} (h : ∀ t u, PE X a t → PE X b u → PE X e (tOp r t u)) (hr : ∀ x y H Q, rD2 X.K X.mg S.T g x y H Q → r x y H Q) (ha : PE X a (TEm X S W <| ma)) (hb : PE X b (TEm X S W <| mb)) : PE X e (TEm X S W <| e2 g ma mb) :=
  PEi (h _ _ ha hb) fun σ H Q ⟨w, δ, μ, h⟩ => ⟨w, δ, μ, (At.bind h).mono fun x H1 ⟨w1, μ1, d, le, rd, h1⟩ => ⟨w1, δ, μ1, (At.bind h1).mono fun y H2 ⟨w2, μ2, f, le2, re, h2⟩ => by
    obtain ⟨z, e, q⟩ := h2.opt
    exact hr _ _ _ _ ⟨w2, μ2, d, f, z, h2.2.1, rd.mono le2, re, e, q⟩⟩⟩
theorem pe_As {r : List V → Hp → VK → Prop} {g : List D → Mem → Option D} (h : ∀ t, PA X es t → PE X e (tCB r t)) (hr : ∀ x H Q, rDs X.K X.mg S.T g x H Q → r x H Q) (ha : PA X es (TAm X S W <| mr)) : PE X e (TEm X S W <| eAs g mr) :=
  PEi (h _ ha) fun σ H Q ⟨w, δ, μ, h⟩ => ⟨w, δ, μ, (At.bind h).mono fun x H1 ⟨w1, μ1, d, le, rd, h1⟩ => by
    obtain ⟨z, e, q⟩ := h1.opt
    exact hr _ _ _ ⟨w1, μ1, d, z, h1.2.1, rd, e, q⟩⟩
theorem pa_nil' : PA X [] (TAm X S W <| aNil) := PAi pa_nil fun σ H Q ⟨w, δ, μ, h⟩ => h.2.2 w [] H (Wd.Le.refl _) h.2.1 .nil
theorem pa_cons' (ha : PE X a (TEm X S W <| ma)) (hr : PA X es (TAm X S W <| mr)) (hs : starEach (a :: es) X.env = (false, eval a X.env) :: starEach es X.env := by rfl) : PA X (a :: es) (TAm X S W <| aCons ma mr) :=
  PAi (pa_cons ha hr hs) fun σ H Q ⟨w, δ, μ, h⟩ => ⟨w, δ, μ, (At.bind h).mono fun x H1 ⟨w1, μ1, d, le, rd, h1⟩ => ⟨w1, δ, μ1, (At.bind h1).mono fun y H2 ⟨w2, μ2, f, le2, re, h2⟩ =>
    h2.2.2 w2 (x :: y) H2 (Wd.Le.refl _) h2.2.1 (.cons (rd.mono le2) re)⟩⟩
/-- a tuple, a list of items -/
def gTupD : List D → Mem → Option D := fun ds _ => if ds.length ≤ sizeLine then some (.tup ds) else none
def gLstD : List D → Mem → Option D := fun ds _ => if ds.length ≤ sizeLine then some (.lst ds) else none
theorem pe_tup' {x1} (h : PA X es (TAm X S W <| mr)) : PE X (.Tuple es x1 pos) (TEm X S W <| eAs gTupD mr) :=
  pe_As (r := fun xs H1 Q => xs.length ≤ sizeLine ∧ ∀ p, H1 p = none → Q (.ref p) (upd H1 p (.tup xs))) (fun t h => pe_tup h) (fun xs H Q ⟨w, μ, ds, d, r, rs, e, q⟩ => by
    unfold gTupD at e
    split at e
    · next hl =>
      cases e
      exact ⟨by rw [← rs.length]; exact hl, q.tup r rs⟩
    · cases e) h
theorem pe_lst' (h : PA X es (TAm X S W <| mr)) : PE X (.List es pos) (TEm X S W <| eAs gLstD mr) :=
  pe_As (r := fun xs H1 Q => xs.length ≤ sizeLine ∧ ∀ p, H1 p = none → Q (.ref p) (upd H1 p (.lst xs))) (fun t h => pe_lst h) (fun xs H Q ⟨w, μ, ds, d, r, rs, e, q⟩ => by
    unfold gLstD at e
    split at e
    · next hl =>
      cases e
      exact ⟨by rw [← rs.length]; exact hl, q.lst r rs⟩
    · cases e) h
/-- truth -/
theorem truD_rel {K : PySem.W.Frag} {mg : Str → Option Value} {T : List (Addr × Str)} {w : Wd} {μ : Mem} {H : Hp} {d : D} {v : V} {k : Bool} (r : RelM K mg T w μ H) (rd : RelD K mg w d v) (h : truD μ d = some k) : TruV K v H k := by
  cases rd with
  | non => cases h; rfl
  | bl b => cases h; rfl
  | int i => cases h; rfl
  | str y =>
    simp only [truD] at h
    split at h
    · next hl => cases h; exact ⟨hl, rfl⟩
    · cases h
  | tup e rs =>
    cases h
    refine .inr (.inl ⟨_, sqT_mono r.φ e, ?_⟩)
    cases rs <;> rfl
  | lst e rs =>
    cases h
    refine .inl ⟨_, .inl (.inl (r.φ _ _ e)), ?_⟩
    cases rs <;> rfl
  | scr e rs =>
    cases h
    refine .inl ⟨_, scr_H r e, ?_⟩
    cases rs <;> rfl
  | @loc l hl =>
    simp only [truD] at h
    split at h
    · next xs q =>
      cases h
      obtain ⟨vs, h1, h2⟩ := r.lst q
      refine .inl ⟨vs, .inl (.inl h1), ?_⟩
      cases h2 <;> rfl
    · next kvs q =>
      cases h
      have z := (r.ob _ _ q).1
      generalize e : H (w.ρ l) = o at z
      cases z with
      | @dct _ gs hk hv =>
        refine .inr (.inr ⟨gs, e, ?_⟩)
        have : kvs.length = gs.length := by have := congrArg List.length hk; simpa using this
        cases kvs <;> cases gs <;> simp_all
    · cases h
  | _ => cases h
theorem pt_tru' (ha : PE X a (TEm X S W <| ma)) (he : ∀ whole, isTrue a X.env whole = (do let v ← whole; standAt a.pos; holding [v] (truthy v)) := by intro _; rfl) : PT X a (TTm X S W <| tTru ma) :=
  PTi (pt_truth ha he) fun σ H Q ⟨w, δ, μ, h⟩ => ⟨w, δ, μ, (At.bind h).mono fun x H1 ⟨w1, μ1, d, le, rd, h1⟩ => by
    have h3 := h1.2.2
    cases e : truD μ1 d with
    | none => rw [e] at h3; exact h3.elim
    | some k => rw [e] at h3; exact ⟨k, truD_rel h1.2.1 rd e, h3 w1 k H1 (Wd.Le.refl _) h1.2.1 rfl⟩⟩
theorem pt_not' (ha : PT X a (TTm X S W <| mt)) : PT X (.UnaryOp .Not a pos) (TTm X S W <| tNotM mt) :=
  PTi (pt_not ha) fun σ H Q ⟨w, δ, μ, h⟩ => ⟨w, δ, μ, (At.bind h).mono fun x H1 ⟨w1, μ1, d, le, rd, h1⟩ => by
    cases rd
    exact h1.2.2 w1 _ H1 (Wd.Le.refl _) h1.2.1 rfl⟩
theorem pe_ifExp' (hc : PT X c (TTm X S W <| mt)) (ha : PE X a (TEm X S W <| ma)) (hb : PE X b (TEm X S W <| mb)) : PE X (.IfExp c a b pos) (TEm X S W <| eIfM mt ma mb) :=
  PEi (pe_ifExp hc ha hb) fun σ H Q ⟨w, δ, μ, h⟩ => ⟨w, δ, μ, (At.bind h).mono fun x H1 ⟨w1, μ1, d, le, rd, h1⟩ => by
    cases rd
    split
    · next hx => rw [if_pos hx] at h1; exact h1.tM
    · next hx => rw [if_neg hx] at h1; exact h1.tM⟩
theorem pw_and1' (ha : PT X a (TTm X S W mt)) : PW X (.BoolOp .And [a] pos) (TTm X S W mt) := pw_and1 ha
theorem pw_or1' (ha : PT X a (TTm X S W mt)) : PW X (.BoolOp .Or [a] pos) (TTm X S W mt) := pw_or1 ha
theorem PWi {e : Expr} {t t' : TT} (h : PW X e t') (i : ∀ σ H Q, t σ H Q → t' σ H Q) : PW X e t := ⟨fun wh pins s σ H Q I q => h.run wh pins s σ H Q I (i _ _ _ q)⟩
theorem pw_and' (ha : PT X a (TTm X S W mt)) (hb : PW X (.BoolOp .And (b :: es) pos) (TTm X S W mu)) : PW X (.BoolOp .And (a :: b :: es) pos) (TTm X S W <| tAndM mt mu) :=
  PWi (pw_and ha hb) fun σ H Q ⟨w, δ, μ, h⟩ => ⟨w, δ, μ, (At.bind h).mono fun x H1 ⟨w1, μ1, d, le, rd, h1⟩ => by
    cases rd
    split
    · next hx => rw [if_pos hx] at h1; exact h1.tM
    · next hx =>
      rw [if_neg hx] at h1
      exact h1.2.2 w1 _ H1 (Wd.Le.refl _) h1.2.1 rfl⟩
theorem pw_or' (ha : PT X a (TTm X S W mt)) (hb : PW X (.BoolOp .Or (b :: es) pos) (TTm X S W mu)) : PW X (.BoolOp .Or (a :: b :: es) pos) (TTm X S W <| tOrM mt mu) :=
  PWi (pw_or ha hb) fun σ H Q ⟨w, δ, μ, h⟩ => ⟨w, δ, μ, (At.bind h).mono fun x H1 ⟨w1, μ1, d, le, rd, h1⟩ => by
    cases rd
    split
    · next hx =>
      rw [if_pos hx] at h1
      exact h1.2.2 w1 _ H1 (Wd.Le.refl _) h1.2.1 rfl
    · next hx => rw [if_neg hx] at h1; exact h1.tM⟩
theorem pe_or1' (ha : PE X a (TEm X S W ma)) : PE X (.BoolOp .Or [a] pos) (TEm X S W ma) := pe_one ha
theorem pe_or' (ha : PE X a (TEm X S W ma)) (hb : PE X (.BoolOp .Or (b :: es) pos) (TEm X S W mb)) : PE X (.BoolOp .Or (a :: b :: es) pos) (TEm X S W <| eOrM ma mb) :=
  PEi (pe_orT ha hb) fun σ H Q ⟨w, δ, μ, h⟩ => ⟨w, δ, μ, (At.bind h).mono fun x H1 ⟨w1, μ1, d, le, rd, h1⟩ => by
    have h3 := h1
    cases e : truD μ1 d with
    | none => rw [e] at h3; exact h3.2.2.elim
    | some k =>
      rw [e] at h3
      refine ⟨k, truD_rel h1.2.1 rd e, ?_⟩
      have h4 : At X.K X.mg S W (RelD X.K X.mg) σ Q w1 δ μ1 H1 (if k = true then .ok d μ1 else mb δ μ1) := h3
      split
      · next hx => rw [if_pos hx] at h4; exact h4.2.2 w1 _ H1 (Wd.Le.refl _) h4.2.1 rd
      · next hx => rw [if_neg hx] at h4; exact h4.tM⟩
end
end Kw
set_option Elab.async false
set_option linter.all false
set_option maxRecDepth 100000
namespace Kw
open PySem PySem.Spec PyProof.Rows L2
mutual
def pyW (f : Nat → Option PyData) : D → Option PyData
  | .non => some .none
  | .bl b => some (.bool b)
  | .int i => some (.int i)
  | .str x => some (.str x)
  | .tup xs => match pyWs f xs with
    | some ps => some (.tuple ps)
    | none => none
  | .lst xs => match pyWs f xs with
    | some ps => some (.list ps)
    | none => none
  | .scr xs => match pyWs f xs with
    | some ps => some (.list ps)
    | none => none
  | .loc l => f l
  | _ => none
def pyWs (f : Nat → Option PyData) : List D → Option (List PyData)
  | [] => some []
  | d :: ds => match pyW f d, pyWs f ds with
    | some p, some ps => some (p :: ps)
    | _, _ => none
end
def pyL (μ : Mem) : Nat → Nat → Option PyData
  | 0, _ => none
  | n + 1, l => match μ[l]? with
    | some (.lst xs) => match pyWs (pyL μ n) xs with
      | some ps => some (.list ps)
      | none => none
    | _ => none
def pyOf (μ : Mem) (d : D) : Option PyData := pyW (pyL μ 4) d
section
variable {K : PySem.W.Frag} {mg : Str → Option Value} {T : List (Addr × Str)} {w : Wd} {μ : Mem} {H : Hp}
mutual
theorem pyW_dp (r : RelM K mg T w μ H) {f : Nat → Option PyData} (hf : ∀ l p, f l = some p → Dp K H (.ref (w.ρ l)) p) : ∀ (d : D) (v : V) (p : PyData), RelD K mg w d v → pyW f d = some p → Dp K H v p
  | .non, _, _, rd, h => by cases rd; cases h; exact .non
  | .bl b, _, _, rd, h => by cases rd; cases h; exact .bl b
  | .int i, _, _, rd, h => by cases rd; cases h; exact .int i
  | .str i, _, _, rd, h => by cases rd; cases h; exact .str i
  | .tup xs, _, _, rd, h => by
    cases rd with
    | tup e rs =>
      simp only [pyW] at h
      split at h
      · next ps hp => cases h; exact .tup (sqT_mono r.φ e) (pyWs_dp r hf xs _ _ rs hp)
      · cases h
  | .lst xs, _, _, rd, h => by
    cases rd with
    | lst e rs =>
      simp only [pyW] at h
      split at h
      · next ps hp => cases h; exact .lst (.inl (.inl (r.φ _ _ e))) (pyWs_dp r hf xs _ _ rs hp)
      · cases h
  | .scr xs, _, _, rd, h => by
    cases rd with
    | scr e rs =>
      simp only [pyW] at h
      split at h
      · next ps hp => cases h; exact .lst (scr_H r e) (pyWs_dp r hf xs _ _ rs hp)
      · cases h
  | .loc l, _, _, rd, h => by
    cases rd with
    | loc hl => exact hf l _ h
  | .dct _, _, _, _, h => by cases h
  | .brd _, _, _, _, h => by cases h
  | .glb _, _, _, _, h => by cases h
  | .ty _, _, _, _, h => by cases h
  | .ins _ _ _, _, _, _, h => by cases h
  | .fn _ _, _, _, _, h => by cases h
  | .lam, _, _, _, h => by cases h
  | .exc _ _, _, _, _, h => by cases h
theorem pyWs_dp (r : RelM K mg T w μ H) {f : Nat → Option PyData} (hf : ∀ l p, f l = some p → Dp K H (.ref (w.ρ l)) p) : ∀ (ds : List D) (vs : List V) (ps : List PyData), RelDs K mg w ds vs → pyWs f ds = some ps → DpAll K H vs ps
  | [], _, _, rd, h => by cases rd; cases h; exact .nil
  | d :: ds, _, _, rd, h => by
    cases rd with
    | cons r1 r2 =>
      simp only [pyWs] at h
      split at h
      · next p ps hp hps => cases h; exact .cons (pyW_dp r hf d _ _ r1 hp) (pyWs_dp r hf ds _ _ r2 hps)
      · cases h
end
theorem pyL_dp (r : RelM K mg T w μ H) : ∀ (n l : Nat) (p : PyData), pyL μ n l = some p → Dp K H (.ref (w.ρ l)) p
  | 0, l, p, h => by cases h
  | n + 1, l, p, h => by
    simp only [pyL] at h
    split at h
    · next xs q =>
      obtain ⟨vs, h1, h2⟩ := r.lst q
      split at h
      · next ps hp => cases h; exact .lst (.inl (.inl h1)) (pyWs_dp r (pyL_dp r n) _ _ _ h2 hp)
      · cases h
    · cases h
theorem pyOf_dp (r : RelM K mg T w μ H) {d : D} {v : V} {p : PyData} (rd : RelD K mg w d v) (h : pyOf μ d = some p) : Dp K H v p := pyW_dp r (fun l p => pyL_dp r 4 l p) d v p rd h
end
def gAdd : D → D → Mem → Option D
  | .int i, .int j, _ => some (.int (i + j))
  | .str a, .str b, _ => if a.length + b.length ≤ sizeLine then some (.str (a ++ b)) else none
  | .tup a, .tup b, _ => if a.length + b.length ≤ sizeLine then some (.tup (a ++ b)) else none
  | x, y, μ => match lstX μ x, lstX μ y with
    | some a, some b => if a.length + b.length ≤ sizeLine then some (.lst (a ++ b)) else none
    | _, _ => none
def gSub : D → D → Mem → Option D
  | .int i, .int j, _ => some (.int (i - j))
  | _, _, _ => none
def gMul : D → D → Mem → Option D
  | .int i, .int j, _ => if ((-(18446744073709551616) < i ∧ i < 18446744073709551616) ∨ (-(18446744073709551616) < j ∧ j < 18446744073709551616)) ∨ i.natAbs.log2 + j.natAbs.log2 < 1000000 then some (.int (i * j)) else none
  | _, _, _ => none
def gMod : D → D → Mem → Option D
  | .int i, .int j, _ => if 0 < j then some (.int (i % j)) else none
  | _, _, _ => none
def gFdv : D → D → Mem → Option D
  | .int i, .int j, _ => if 0 < j ∧ (j < 1073741824 ∨ j.natAbs.log2 < 9000) then some (.int (i / j)) else none
  | _, _, _ => none
def gPow : D → D → Mem → Option D
  | .int i, .int j, _ => if 0 ≤ j ∧ j ≤ 1000000 ∧ i.natAbs < 18446744073709551616 then some (.int (i ^ j.toNat)) else none
  | _, _, _ => none
def gLt : D → D → Mem → Option D
  | .int i, .int j, _ => some (.bl (decide (i < j)))
  | _, _, _ => none
def gLe : D → D → Mem → Option D
  | .int i, .int j, _ => some (.bl (decide (i ≤ j)))
  | _, _, _ => none
def gGt : D → D → Mem → Option D
  | .int i, .int j, _ => some (.bl (decide (j < i)))
  | _, _, _ => none
def gGe : D → D → Mem → Option D
  | .int i, .int j, _ => some (.bl (decide (j ≤ i)))
  | _, _, _ => none
def eqD (x y : D) (μ : Mem) : Option Bool := match pyOf μ x, pyOf μ y with
  | some p, some q => if (SeqAt.shaped p && SeqAt.shaped q) = true then some (PyData.eqv p q) else none
  | _, _ => none
def gEq (x y : D) (μ : Mem) : Option D := match eqD x y μ with
  | some b => some (.bl b)
  | none => none
def gNe (x y : D) (μ : Mem) : Option D := match eqD x y μ with
  | some b => some (.bl !b)
  | none => none
section
variable {K : PySem.W.Frag} {mg : Str → Option Value} {T : List (Addr × Str)} {x y : V} {H : Hp} {Q : VK}
theorem add_r (h : rD2 K mg T gAdd x y H Q) : rI0 (fun i j => .int (i + j)) x y H Q ∨ (∃ i j, x = .str i ∧ y = .str j ∧ i.length + j.length ≤ sizeLine ∧ Q (.str (i ++ j)) H) ∨ rCatA K x y H Q ∨ rCat x y H Q := by
  obtain ⟨w, μ, dx, dy, d, r, rx, ry, e, q⟩ := h
  unfold gAdd at e
  split at e
  · cases rx; cases ry; cases e
    exact .inl ⟨_, _, rfl, rfl, q.same r (.int _)⟩
  · cases rx; cases ry
    split at e
    · next hl => cases e; exact .inr (.inl ⟨_, _, rfl, rfl, hl, q.same r (.str _)⟩)
    · cases e
  · next as bs =>
    split at e
    · next hl =>
      cases e
      obtain ⟨a, vs, rfl, h1, h2⟩ := tupOf_rel r rx rfl
      obtain ⟨b, us, rfl, h3, h4⟩ := tupOf_rel r ry rfl
      refine .inr (.inr (.inl ⟨a, b, vs, us, rfl, rfl, h1, h3, by rw [← h2.length, ← h4.length]; exact hl, fun e => ?_, fun _ e => ?_, fun _ _ => ?_⟩))
      · subst e
        cases h2
        exact q.same r ry
      · subst e
        cases h4
        rw [List.append_nil] at q
        exact q.same r rx
      · exact q.tup r (h2.append h4)
    · cases e
  · split at e
    · next as bs ea eb =>
      split at e
      · next hl =>
        cases e
        obtain ⟨a, vs, rfl, h1, h2⟩ := lstX_rel r rx ea
        obtain ⟨b, us, rfl, h3, h4⟩ := lstX_rel r ry eb
        exact .inr (.inr (.inr ⟨a, b, vs, us, rfl, rfl, h1, h3, by rw [← h2.length, ← h4.length]; exact hl, q.lst r (h2.append h4)⟩))
      · cases e
    · cases e
theorem sub_r (h : rD2 K mg T gSub x y H Q) : rI0 (fun i j => .int (i - j)) x y H Q := by
  obtain ⟨w, μ, dx, dy, d, r, rx, ry, e, q⟩ := h
  unfold gSub at e
  split at e
  · cases rx; cases ry; cases e
    exact ⟨_, _, rfl, rfl, q.same r (.int _)⟩
  · cases e
theorem mul_r (h : rD2 K mg T gMul x y H Q) : rI CMul (fun i j => .int (i * j)) x y H Q ∨ rI CMulW (fun i j => .int (i * j)) x y H Q := by
  obtain ⟨w, μ, dx, dy, d, r, rx, ry, e, q⟩ := h
  unfold gMul at e
  split at e
  · cases rx; cases ry
    split at e
    · next hc =>
      cases e
      rcases hc with hc | hc
      · exact .inl ⟨_, _, rfl, rfl, hc, q.same r (.int _)⟩
      · exact .inr ⟨_, _, rfl, rfl, hc, q.same r (.int _)⟩
    · cases e
  · cases e
theorem mod_r (h : rD2 K mg T gMod x y H Q) : rI (fun _ j => 0 < j) (fun i j => .int (i % j)) x y H Q := by
  obtain ⟨w, μ, dx, dy, d, r, rx, ry, e, q⟩ := h
  unfold gMod at e
  split at e
  · cases rx; cases ry
    split at e
    · next hc => cases e; exact ⟨_, _, rfl, rfl, hc, q.same r (.int _)⟩
    · cases e
  · cases e
theorem fdv_r (h : rD2 K mg T gFdv x y H Q) : rI CDiv (fun i j => .int (i / j)) x y H Q ∨ rI CDivW (fun i j => .int (i / j)) x y H Q := by
  obtain ⟨w, μ, dx, dy, d, r, rx, ry, e, q⟩ := h
  unfold gFdv at e
  split at e
  · cases rx; cases ry
    split at e
    · next hc =>
      cases e
      obtain ⟨h0, hc | hc⟩ := hc
      · exact .inl ⟨_, _, rfl, rfl, ⟨h0, hc⟩, q.same r (.int _)⟩
      · exact .inr ⟨_, _, rfl, rfl, ⟨h0, hc⟩, q.same r (.int _)⟩
    · cases e
  · cases e
theorem pow_r (h : rD2 K mg T gPow x y H Q) : rI CPow (fun i j => .int (i ^ j.toNat)) x y H Q := by
  obtain ⟨w, μ, dx, dy, d, r, rx, ry, e, q⟩ := h
  unfold gPow at e
  split at e
  · cases rx; cases ry
    split at e
    · next hc => cases e; exact ⟨_, _, rfl, rfl, ⟨hc.1, hc.2.1, by have := hc.2.2; omega⟩, q.same r (.int _)⟩
    · cases e
  · cases e
theorem lt_r (h : rD2 K mg T gLt x y H Q) : rI0 (fun i j => .bl (decide (i < j))) x y H Q := by
  obtain ⟨w, μ, dx, dy, d, r, rx, ry, e, q⟩ := h
  unfold gLt at e
  split at e
  · cases rx; cases ry; cases e
    exact ⟨_, _, rfl, rfl, q.same r (.bl _)⟩
  · cases e
theorem gt_r (h : rD2 K mg T gGt x y H Q) : rI0 (fun i j => .bl (decide (j < i))) x y H Q := by
  obtain ⟨w, μ, dx, dy, d, r, rx, ry, e, q⟩ := h
  unfold gGt at e
  split at e
  · cases rx; cases ry; cases e
    exact ⟨_, _, rfl, rfl, q.same r (.bl _)⟩
  · cases e
theorem ge_r (h : rD2 K mg T gGe x y H Q) : rI0 (fun i j => .bl (decide (j ≤ i))) x y H Q := by
  obtain ⟨w, μ, dx, dy, d, r, rx, ry, e, q⟩ := h
  unfold gGe at e
  split at e
  · cases rx; cases ry; cases e
    exact ⟨_, _, rfl, rfl, q.same r (.bl _)⟩
  · cases e
theorem eqD_r {w : Wd} {μ : Mem} {dx dy : D} {b : Bool} (r : RelM K mg T w μ H) (rx : RelD K mg w dx x) (ry : RelD K mg w dy y) (e : eqD dx dy μ = some b) : ∃ p q, Dp K H x p ∧ Dp K H y q ∧ SeqAt.shaped p = true ∧ SeqAt.shaped q = true ∧ b = PyData.eqv p q := by
  unfold eqD at e
  split at e
  · next p q hp hq =>
    split at e
    · next hs =>
      cases e
      rw [Bool.and_eq_true] at hs
      exact ⟨p, q, pyOf_dp r rx hp, pyOf_dp r ry hq, hs.1, hs.2, rfl⟩
    · cases e
  · cases e
theorem eq_r (h : rD2 K mg T gEq x y H Q) : rEqD K x y H Q := by
  obtain ⟨w, μ, dx, dy, d, r, rx, ry, e, q⟩ := h
  unfold gEq at e
  split at e
  · next b hb =>
    cases e
    obtain ⟨p, p', h1, h2, h3, h4, rfl⟩ := eqD_r r rx ry hb
    exact ⟨p, p', h1, h2, h3, h4, q.same r (.bl _)⟩
  · cases e
theorem ne_r (h : rD2 K mg T gNe x y H Q) : rNeD K x y H Q := by
  obtain ⟨w, μ, dx, dy, d, r, rx, ry, e, q⟩ := h
  unfold gNe at e
  split at e
  · next b hb =>
    cases e
    obtain ⟨p, p', h1, h2, h3, h4, rfl⟩ := eqD_r r rx ry hb
    exact ⟨p, p', h1, h2, h3, h4, q.same r (.bl _)⟩
  · cases e
end
section
variable {X : Cx} {S : SI} {W : WX} {a b : Expr} {ma mb : EM} {pos : Pos}
theorem pe_add' (ha : PE X a (TEm X S W ma)) (hb : PE X b (TEm X S W mb)) : PE X (.BinOp a .Add b pos) (TEm X S W <| e2 gAdd ma mb) := pe_2 (fun t u => pe_op (op_add.or (op_add_str.or (op_catA.or op_cat)))) (fun _ _ _ _ => add_r) ha hb
theorem pe_sub' (ha : PE X a (TEm X S W ma)) (hb : PE X b (TEm X S W mb)) : PE X (.BinOp a .Sub b pos) (TEm X S W <| e2 gSub ma mb) := pe_2 (fun t u => pe_op op_sub) (fun _ _ _ _ => sub_r) ha hb
theorem pe_mul' (ha : PE X a (TEm X S W ma)) (hb : PE X b (TEm X S W mb)) : PE X (.BinOp a .Mult b pos) (TEm X S W <| e2 gMul ma mb) := pe_2 (fun t u => pe_op (op_mul.or op_mulW)) (fun _ _ _ _ => mul_r) ha hb
theorem pe_mod' (ha : PE X a (TEm X S W ma)) (hb : PE X b (TEm X S W mb)) : PE X (.BinOp a .Mod b pos) (TEm X S W <| e2 gMod ma mb) := pe_2 (fun t u => pe_op op_mod) (fun _ _ _ _ => mod_r) ha hb
theorem pe_fdv' (ha : PE X a (TEm X S W ma)) (hb : PE X b (TEm X S W mb)) : PE X (.BinOp a .FloorDiv b pos) (TEm X S W <| e2 gFdv ma mb) := pe_2 (fun t u => pe_op (op_fdiv.or op_fdivW)) (fun _ _ _ _ => fdv_r) ha hb
theorem pe_pow' (ha : PE X a (TEm X S W ma)) (hb : PE X b (TEm X S W mb)) : PE X (.BinOp a .Pow b pos) (TEm X S W <| e2 gPow ma mb) := pe_2 (fun t u => pe_op op_pow) (fun _ _ _ _ => pow_r) ha hb
theorem pe_eq' (hu : X.A.units + 64 < cLine) (ha : PE X a (TEm X S W ma)) (hb : PE X b (TEm X S W mb)) : PE X (.Compare a [.Eq] [b] pos) (TEm X S W <| e2 gEq ma mb) := pe_2 (fun t u ha hb => pe_cmpR (op_eqD hu) ha hb (nomark b)) (fun _ _ _ _ => eq_r) ha hb
end
end Kw
set_option Elab.async false
set_option linter.all false
set_option maxRecDepth 100000
namespace Kw
open PySem PySem.Spec PyProof.Rows L2
def gOr2 (g g' : D → D → Mem → Option D) : D → D → Mem → Option D := fun x y μ => match g x y μ with
  | some d => some d
  | none => g' x y μ
/-- a test by an expression that is a bool -/
def tBl (m : EM) : TM := fun δ μ => (m δ μ).bind fun d μ1 => match d with
  | .bl b => .ok b μ1
  | _ => .stuck
theorem pt_cmp2 {X : Cx} {S : SI} {W : WX} {a b : Expr} {op : CmpOp} {pos : Pos} {ma mb : EM} {r : R2} {g : D → D → Mem → Option D} (ho : OpR X (compareOp op) r) (hm : behindInMarks op b = false) (hr : ∀ x y H Q, rD2 X.K X.mg S.T g x y H Q → r x y H Q) (ha : PE X a (TEm X S W ma)) (hb : PE X b (TEm X S W mb)) :
    PT X (.Compare a [op] [b] pos) (TTm X S W <| tBl (e2 g ma mb)) :=
  PTi (pt_cmpR ho ha hb hm) fun σ H Q ⟨w, δ, μ, h⟩ => ⟨w, δ, μ, (At.bind (R := RelD X.K X.mg) (R' := fun _ (a b : Bool) => a = b) (Q := Q) (o := ma δ μ) (f := fun x μ1 => ((mb δ μ1).bind fun y μ2 => oOf (g x y μ2) μ2).bind fun d μ1 => match d with
      | .bl b => .ok b μ1
      | _ => .stuck) (by unfold tBl e2 at h; cases q : ma δ μ <;> rw [q] at h <;> exact h)).mono fun x H1 ⟨w1, μ1, d, le, rd, h1⟩ => ⟨w1, δ, μ1, (At.bind (R := RelD X.K X.mg) (R' := fun _ (a b : Bool) => a = b) (Q := Q) (o := mb δ μ1) (f := fun y μ2 => (oOf (g d y μ2) μ2).bind fun d μ1 => match d with
      | .bl b => .ok b μ1
      | _ => .stuck) (by cases q : mb δ μ1 <;> rw [q] at h1 <;> exact h1)).mono fun y H2 ⟨w2, μ2, f, le2, re, h2⟩ => by
    cases q : g d f μ2 with
    | none => rw [q] at h2; exact h2.2.2.elim
    | some z =>
      rw [q] at h2
      refine hr _ _ _ _ ⟨w2, μ2, d, f, z, h2.2.1, rd.mono le2, re, q, fun w3 v H3 le3 r3 rz => ?_⟩
      cases z with
      | bl k =>
        cases rz
        exact ⟨k, rfl, h2.2.2 w3 k H3 le3 r3 rfl⟩
      | _ => exact h2.2.2.elim⟩⟩
section
variable {X : Cx} {S : SI} {W : WX} {a b : Expr} {ma mb : EM} {pos : Pos}
theorem pt_lt' (ha : PE X a (TEm X S W ma)) (hb : PE X b (TEm X S W mb)) : PT X (.Compare a [.Lt] [b] pos) (TTm X S W <| tBl (e2 gLt ma mb)) := pt_cmp2 op_lt (nomark b) (fun _ _ _ _ => lt_r) ha hb
theorem pt_gt' (ha : PE X a (TEm X S W ma)) (hb : PE X b (TEm X S W mb)) : PT X (.Compare a [.Gt] [b] pos) (TTm X S W <| tBl (e2 gGt ma mb)) := pt_cmp2 op_gt (nomark b) (fun _ _ _ _ => gt_r) ha hb
theorem pt_ge' (ha : PE X a (TEm X S W ma)) (hb : PE X b (TEm X S W mb)) : PT X (.Compare a [.GtE] [b] pos) (TTm X S W <| tBl (e2 gGe ma mb)) := pt_cmp2 op_ge (nomark b) (fun _ _ _ _ => ge_r) ha hb
theorem pt_eq' (hu : X.A.units + 64 < cLine) (ha : PE X a (TEm X S W ma)) (hb : PE X b (TEm X S W mb)) : PT X (.Compare a [.Eq] [b] pos) (TTm X S W <| tBl (e2 gEq ma mb)) := pt_cmp2 (op_eqD hu) (nomark b) (fun _ _ _ _ => eq_r) ha hb
theorem pt_ne' (hu : X.A.units + 64 < cLine) (ha : PE X a (TEm X S W ma)) (hb : PE X b (TEm X S W mb)) : PT X (.Compare a [.NotEq] [b] pos) (TTm X S W <| tBl (e2 gNe ma mb)) := pt_cmp2 (op_neD hu) (nomark b) (fun _ _ _ _ => ne_r) ha hb
end
def flatD : D → Bool
  | .non => true
  | .bl _ => true
  | .int _ => true
  | .str _ => true
  | _ => false
def eqF : D → D → Bool
  | .non, .non => true
  | .bl a, .bl b => a == b
  | .bl a, .int b => (if a then 1 else 0) == b
  | .int a, .bl b => a == (if b then 1 else 0)
  | .int a, .int b => a == b
  | .str a, .str b => a == b
  | _, _ => false
/-- x in y: flat items; or a list of shaped things -/
def inF (x y : D) (μ : Mem) : Option Bool := match seqOf μ y with
  | some ys => if (flatD x && ys.all flatD) = true then some (ys.any fun z => eqF z x) else none
  | none => none
def inDp (x y : D) (μ : Mem) : Option Bool := match pyOf μ x, pyOf μ y with
  | some p, some (.list qs) => if (SeqAt.shaped p && SeqAt.shaped (.list qs)) = true then some (qs.any fun z => PyData.eqv z p) else none
  | _, _ => none
def gInF (x y : D) (μ : Mem) : Option D := (inF x y μ).map .bl
def gNinF (x y : D) (μ : Mem) : Option D := (inF x y μ).map fun b => .bl !b
def gInDp (x y : D) (μ : Mem) : Option D := (inDp x y μ).map .bl
def gNinDp (x y : D) (μ : Mem) : Option D := (inDp x y μ).map fun b => .bl !b
section
variable {K : PySem.W.Frag} {mg : Str → Option Value} {T : List (Addr × Str)} {x y : V} {H : Hp} {Q : VK}
theorem flatD_rel {w : Wd} {d : D} {v : V} (r : RelD K mg w d v) (h : flatD d = true) : flatV v = true := by
  cases r <;> first | rfl | cases h
theorem flatDs_rel {w : Wd} : ∀ {ds : List D} {vs : List V}, RelDs K mg w ds vs → ds.all flatD = true → vs.all flatV = true
  | _, _, .nil, _ => rfl
  | _, _, .cons r t, h => by
    rw [List.all_cons, Bool.and_eq_true] at h
    rw [List.all_cons, Bool.and_eq_true]
    exact ⟨flatD_rel r h.1, flatDs_rel t h.2⟩
theorem eqF_rel {w : Wd} {d e : D} {v u : V} (r : RelD K mg w d v) (r' : RelD K mg w e u) (h : flatD d = true) (h' : flatD e = true) : eqV v u = eqF d e := by
  cases r <;> cases r' <;> first | rfl | cases h | cases h'
theorem eqFs_rel {w : Wd} {e : D} {u : V} (r' : RelD K mg w e u) (h' : flatD e = true) : ∀ {ds : List D} {vs : List V}, RelDs K mg w ds vs → ds.all flatD = true → inV u vs = ds.any fun z => eqF z e
  | _, _, .nil, _ => rfl
  | _, _, .cons r t, h => by
    rw [List.all_cons, Bool.and_eq_true] at h
    have := eqFs_rel r' h' t h.2
    unfold inV at this ⊢
    rw [List.any_cons, List.any_cons, this, eqF_rel r r' h.1 h']
theorem inF_r {w : Wd} {μ : Mem} {dx dy : D} {b : Bool} (r : RelM K mg T w μ H) (rx : RelD K mg w dx x) (ry : RelD K mg w dy y) (e : inF dx dy μ = some b) : ∃ p xs, y = .ref p ∧ (SqL K H p xs ∨ SqT K H p xs) ∧ flatV x = true ∧ xs.all flatV = true ∧ b = inV x xs := by
  unfold inF at e
  split at e
  · next ys hy =>
    split at e
    · next hf =>
      cases e
      rw [Bool.and_eq_true] at hf
      obtain ⟨a, vs, h1, h2, h3⟩ := seqOf_rel r ry hy
      exact ⟨a, vs, h1, h2, flatD_rel rx hf.1, flatDs_rel h3 hf.2, (eqFs_rel rx hf.1 h3 hf.2).symm⟩
    · cases e
  · cases e
theorem inF_ok (h : rD2 K mg T gInF x y H Q) : rIn K false x y H Q := by
  obtain ⟨w, μ, dx, dy, d, r, rx, ry, e, q⟩ := h
  obtain ⟨b, hb, rfl⟩ := Option.map_eq_some_iff.mp e
  obtain ⟨p, xs, h1, h2, h3, h4, rfl⟩ := inF_r r rx ry hb
  exact ⟨p, xs, h1, h2, h3, h4, q.same r (.bl _)⟩
theorem ninF_ok (h : rD2 K mg T gNinF x y H Q) : rIn K true x y H Q := by
  obtain ⟨w, μ, dx, dy, d, r, rx, ry, e, q⟩ := h
  obtain ⟨b, hb, rfl⟩ := Option.map_eq_some_iff.mp e
  obtain ⟨p, xs, h1, h2, h3, h4, rfl⟩ := inF_r r rx ry hb
  exact ⟨p, xs, h1, h2, h3, h4, q.same r (.bl _)⟩
theorem inDp_r {w : Wd} {μ : Mem} {dx dy : D} {b : Bool} (r : RelM K mg T w μ H) (rx : RelD K mg w dx x) (ry : RelD K mg w dy y) (e : inDp dx dy μ = some b) : ∃ d ds, Dp K H x d ∧ Dp K H y (.list ds) ∧ SeqAt.shaped d = true ∧ SeqAt.shaped (.list ds) = true ∧ b = ds.any fun z => PyData.eqv z d := by
  unfold inDp at e
  split at e
  · next p qs hp hq =>
    split at e
    · next hs =>
      cases e
      rw [Bool.and_eq_true] at hs
      exact ⟨p, qs, pyOf_dp r rx hp, pyOf_dp r ry hq, hs.1, hs.2, rfl⟩
    · cases e
  · cases e
theorem inDp_ok (h : rD2 K mg T gInDp x y H Q) : rInD K x y H Q := by
  obtain ⟨w, μ, dx, dy, d, r, rx, ry, e, q⟩ := h
  obtain ⟨b, hb, rfl⟩ := Option.map_eq_some_iff.mp e
  obtain ⟨p, xs, h1, h2, h3, h4, rfl⟩ := inDp_r r rx ry hb
  exact ⟨p, xs, h1, h2, h3, h4, q.same r (.bl _)⟩
theorem ninDp_ok (h : rD2 K mg T gNinDp x y H Q) : rNotInD K x y H Q := by
  obtain ⟨w, μ, dx, dy, d, r, rx, ry, e, q⟩ := h
  obtain ⟨b, hb, rfl⟩ := Option.map_eq_some_iff.mp e
  obtain ⟨p, xs, h1, h2, h3, h4, rfl⟩ := inDp_r r rx ry hb
  exact ⟨p, xs, h1, h2, h3, h4, q.same r (.bl _)⟩
theorem rD2_or {g g' : D → D → Mem → Option D} (h : rD2 K mg T (gOr2 g g') x y H Q) : rD2 K mg T g x y H Q ∨ rD2 K mg T g' x y H Q := by
  obtain ⟨w, μ, dx, dy, d, r, rx, ry, e, q⟩ := h
  unfold gOr2 at e
  split at e
  · next z hz => cases e; exact .inl ⟨w, μ, dx, dy, _, r, rx, ry, hz, q⟩
  · exact .inr ⟨w, μ, dx, dy, _, r, rx, ry, e, q⟩
end
def gIn : D → D → Mem → Option D := gOr2 gInF gInDp
def gNin : D → D → Mem → Option D := gOr2 gNinF gNinDp
section
variable {X : Cx} {S : SI} {W : WX} {a b : Expr} {ma mb : EM} {pos : Pos}
theorem pt_in' (hu : X.A.units + 65 < cLine) (hm : behindInMarks .In b = false) (ha : PE X a (TEm X S W ma)) (hb : PE X b (TEm X S W mb)) : PT X (.Compare a [.In] [b] pos) (TTm X S W <| tBl (e2 gIn ma mb)) := pt_cmp2 (op_in_seq.or (op_inD hu)) hm (fun _ _ _ _ h => (rD2_or h).imp inF_ok inDp_ok) ha hb
theorem pe_nin' (hu : X.A.units + 65 < cLine) (hm : behindInMarks .NotIn b = false) (ha : PE X a (TEm X S W ma)) (hb : PE X b (TEm X S W mb)) : PE X (.Compare a [.NotIn] [b] pos) (TEm X S W <| e2 gNin ma mb) := pe_2 (fun t u ha hb => pe_cmpR (op_notIn_seq.or (op_notInD hu)) ha hb hm) (fun _ _ _ _ h => (rD2_or h).imp ninF_ok ninDp_ok) ha hb
theorem pt_nin' (hu : X.A.units + 65 < cLine) (hm : behindInMarks .NotIn b = false) (ha : PE X a (TEm X S W ma)) (hb : PE X b (TEm X S W mb)) : PT X (.Compare a [.NotIn] [b] pos) (TTm X S W <| tBl (e2 gNin ma mb)) := pt_cmp2 (op_notIn_seq.or (op_notInD hu)) hm (fun _ _ _ _ h => (rD2_or h).imp ninF_ok ninDp_ok) ha hb
end
def gIx (x y : D) (μ : Mem) : Option D := match y with
  | .int i => match seqOf μ x with
    | some xs => atI xs i
    | none => none
  | _ => none
section
variable {K : PySem.W.Frag} {mg : Str → Option Value} {T : List (Addr × Str)} {x y : V} {H : Hp} {Q : VK}
theorem ix_r (h : rD2 K mg T gIx x y H Q) : rIx K x y H Q := by
  obtain ⟨w, μ, dx, dy, d, r, rx, ry, e, q⟩ := h
  unfold gIx at e
  split at e
  · cases ry
    split at e
    · next xs hx =>
      obtain ⟨a, vs, rfl, h2, h3⟩ := seqOf_rel r rx hx
      obtain ⟨v, hv, rv⟩ := h3.atI e
      rcases h2 with h2 | h2
      · exact .inl ⟨a, vs, _, v, rfl, rfl, h2, hv, q.same r rv⟩
      · exact .inr (.inl ⟨a, vs, _, v, rfl, rfl, h2, hv, q.same r rv⟩)
    · cases e
  · cases e
end
abbrev OM := Sv → Mem → Out (Option Int)
def oNo : OM := fun _ μ => .ok none μ
def oSome (ma : EM) : OM := fun δ μ => (ma δ μ).bind fun x μ1 => match x with
  | .int i => .ok (some i) μ1
  | _ => .stuck
abbrev TOm (X : Cx) (S : SI) (W : WX) (m : OM) : TO := tM X.K X.mg S W (fun _ (a b : Option Int) => a = b) m
def cutD (ds : List D) (lo hi : Option Int) : List D := (ds.drop (HT.sIx ds.length 0 lo)).take (HT.sIx ds.length ds.length hi - HT.sIx ds.length 0 lo)
def gSl (x : D) (lo hi : Option Int) (μ : Mem) : Option D := match x with
  | .tup xs => some (.tup (cutD xs lo hi))
  | x => match lstOf μ x with
    | some xs => some (.lst (cutD xs lo hi))
    | none => none
def eSl (mx : EM) (ml mh : OM) : EM := fun δ μ => (mx δ μ).bind fun x μ1 => (ml δ μ1).bind fun lo μ2 => (mh δ μ2).bind fun hi μ3 => oOf (gSl x lo hi μ3) μ3
section
variable {X : Cx} {S : SI} {W : WX} {a b e : Expr} {ma mb : EM} {ml mh : OM} {pos p2 : Pos} {lo hi : Option Expr}
theorem POi {e : Option Expr} {t t' : TO} (h : PO X e t') (i : ∀ σ H Q, t σ H Q → t' σ H Q) : PO X e t := ⟨fun pins s σ H Q I q => h.run pins s σ H Q I (i _ _ _ q)⟩
theorem po_none' : PO X none (TOm X S W oNo) := POi po_none fun σ H Q ⟨w, δ, μ, h⟩ => h.2.2 w none H (Wd.Le.refl _) h.2.1 rfl
theorem po_some' (ha : PE X a (TEm X S W ma)) : PO X (some a) (TOm X S W <| oSome ma) := POi (po_some ha) fun σ H Q ⟨w, δ, μ, h⟩ => ⟨w, δ, μ, (At.bind h).mono fun x H1 ⟨w1, μ1, d, le, rd, h1⟩ => by
  have h3 := h1.2.2
  split at h3
  · cases rd
    exact ⟨_, rfl, h3 w1 _ H1 (Wd.Le.refl _) h1.2.1 rfl⟩
  · exact h3.elim⟩
theorem pe_ix' (hs : PlainIx b) (ha : PE X a (TEm X S W ma)) (hb : PE X b (TEm X S W mb)) : PE X (.Subscript a b pos) (TEm X S W <| e2 gIx ma mb) := pe_2 (fun t u ha hb => pe_ix ix_seq ha hb hs) (fun _ _ _ _ => ix_r) ha hb
theorem cutD_all {xs : List D} {lo hi : Option Int} (h : HT.sIx xs.length 0 lo = 0 ∧ HT.sIx xs.length xs.length hi = xs.length) : cutD xs lo hi = xs := by
  unfold cutD
  rw [h.1, h.2]
  simp
theorem pe_slice' (he : PE X e (TEm X S W ma)) (hl : PO X lo (TOm X S W ml)) (hu : PO X hi (TOm X S W mh)) : PE X (.Subscript e (.Slice lo hi none p2) pos) (TEm X S W <| eSl ma ml mh) :=
  PEi (pe_slice (sl_list.or sl_tupA) he hl hu) fun σ H Q ⟨w, δ, μ, h⟩ => ⟨w, δ, μ, (At.bind h).mono fun x H1 ⟨w1, μ1, d, le, rd, h1⟩ => ⟨w1, δ, μ1, (At.bind h1).mono fun l H2 ⟨w2, μ2, l', le2, re, h2⟩ =>
    ⟨w2, δ, μ2, (At.bind h2).mono fun u H3 ⟨w3, μ3, u', le3, ru, h3⟩ => by
      cases re; cases ru
      obtain ⟨z, e, q⟩ := h3.opt
      have rx := (rd.mono le2).mono le3
      have r := h3.2.1
      unfold gSl at e
      split at e
      · cases e
        obtain ⟨a, vs, rfl, h4, h5⟩ := tupOf_rel r rx rfl
        refine .inr ⟨a, vs, rfl, h4, fun hh => ?_, fun _ => q.tup r (h5.cutV _ _)⟩
        rw [← h5.length] at hh
        rw [cutD_all hh] at q
        exact q.same r rx
      · split at e
        · next ys hy =>
          cases e
          obtain ⟨a, vs, rfl, h4, h5⟩ := lstOf_rel r rx hy
          exact .inl ⟨a, vs, rfl, h4, q.lst r (h5.cutV _ _)⟩
        · cases e⟩⟩⟩
/-- a list backwards: xs[::0 - 1] -/
def gRevL (x : D) (μ : Mem) : Option D := match lstOf μ x with
  | some xs => some (.lst xs.reverse)
  | none => none
end
end Kw
set_option Elab.async false
set_option linter.all false
set_option maxRecDepth 100000
namespace Kw
open PySem PySem.Spec PyProof.Rows L2
def gLen : List D → Mem → Option D
  | [.str y], _ => if y.length ≤ sizeLine then some (.int y.length) else none
  | [.loc l], μ => match μ[l]? with
    | some (.lst xs) => some (.int xs.length)
    | some (.dct kvs) => some (.int kvs.length)
    | _ => none
  | [x], μ => match seqOf μ x with
    | some xs => some (.int xs.length)
    | none => none
  | _, _ => none
def gAbs : List D → Mem → Option D
  | [.int i], _ => some (.int (if i < 0 then -i else i))
  | _, _ => none
def gInt : List D → Mem → Option D
  | [.int i], _ => some (.int i)
  | [.bl k], _ => some (.int (if k then 1 else 0))
  | _, _ => none
def gTuple : List D → Mem → Option D
  | [.tup xs], _ => some (.tup xs)
  | [x], μ => match lstOf μ x with
    | some xs => some (.tup xs)
    | none => none
  | _, _ => none
def gList : List D → Mem → Option D
  | [x], μ => match seqOf μ x with
    | some xs => some (.lst xs)
    | none => none
  | _, _ => none
def intsOf : List D → Option (List Int)
  | [] => some []
  | .int b :: ds => match intsOf ds with
    | some bs => some (b :: bs)
    | none => none
  | _ => none
def gMax2 : List D → Mem → Option D
  | [.int i, .int j], _ => some (.int (if j > i then j else i))
  | _, _ => none
def tyL : List String := ["int", "bool", "str", "NoneType", "list", "tuple", "dict"]
def gRepr : List D → Mem → Option D
  | [x], μ => match pyOf μ x with
    | some p => if p.showable = true ∧ p.hasDict = false ∧ p.depth ≤ 100 ∧ p.shown.length ≤ sizeLine then some (.str p.shown) else none
    | none => none
  | _, _ => none
section
variable {K : PySem.W.Frag} {mg : Str → Option Value} {T : List (Addr × Str)} {xs : List V} {x y : V} {H : Hp} {Q : VK}
theorem RelDs.one1 {w : Wd} {d : D} (r : RelDs K mg w [d] xs) : ∃ x, xs = [x] ∧ RelD K mg w d x := by
  cases r with
  | cons r t => cases t; exact ⟨_, rfl, r⟩
theorem RelDs.two2 {w : Wd} {d e : D} (r : RelDs K mg w [d, e] xs) : ∃ x y, xs = [x, y] ∧ RelD K mg w d x ∧ RelD K mg w e y := by
  cases r with
  | cons r t =>
    obtain ⟨y, rfl, h⟩ := t.one1
    exact ⟨_, _, rfl, r, h⟩
theorem len_r (h : rDs K mg T gLen xs H Q) : (∃ p ys, xs = [.ref p] ∧ (SqL K H p ys ∨ SqT K H p ys) ∧ Q (.int ys.length) H) ∨ (∃ z, xs = [.str z] ∧ z.length ≤ sizeLine ∧ Q (.int z.length) H) ∨ ∃ a kvs, xs = [V.ref a] ∧ H a = some (.dK kvs) ∧ Q (.int kvs.length) H := by
  obtain ⟨w, μ, ds, d, r, rs, e, q⟩ := h
  unfold gLen at e
  split at e
  · obtain ⟨x, rfl, rx⟩ := rs.one1
    cases rx
    split at e
    · next hl => cases e; exact .inr (.inl ⟨_, rfl, hl, q.same r (.int _)⟩)
    · cases e
  · obtain ⟨x, rfl, rx⟩ := rs.one1
    cases rx
    split at e
    · next ys hy =>
      cases e
      obtain ⟨vs, h1, h2⟩ := r.lst hy
      exact .inl ⟨_, vs, rfl, .inl (.inl (.inl h1)), by rw [← h2.length]; exact q.same r (.int _)⟩
    · next kvs hy =>
      cases e
      have z := (r.ob _ _ hy).1
      generalize eo : H (w.ρ _) = o at z
      cases z with
      | @dct _ gs hk hv =>
        have : kvs.length = gs.length := by have := congrArg List.length hk; simpa using this
        exact .inr (.inr ⟨_, gs, rfl, eo, by rw [← this]; exact q.same r (.int _)⟩)
    · cases e
  · obtain ⟨x, rfl, rx⟩ := rs.one1
    split at e
    · next ys hy =>
      cases e
      obtain ⟨a, vs, rfl, h2, h3⟩ := seqOf_rel r rx hy
      exact .inl ⟨a, vs, rfl, h2, by rw [← h3.length]; exact q.same r (.int _)⟩
    · cases e
  · cases e
theorem abs_r (h : rDs K mg T gAbs xs H Q) : ∃ i, xs = [.int i] ∧ Q (.int (if i < 0 then -i else i)) H := by
  obtain ⟨w, μ, ds, d, r, rs, e, q⟩ := h
  unfold gAbs at e
  split at e
  · obtain ⟨x, rfl, rx⟩ := rs.one1
    cases rx; cases e
    exact ⟨_, rfl, q.same r (.int _)⟩
  · cases e
theorem int_r (h : rDs K mg T gInt xs H Q) : (∃ i, xs = [.int i] ∧ Q (.int i) H) ∨ ∃ k, xs = [.bl k] ∧ Q (.int (if k then 1 else 0)) H := by
  obtain ⟨w, μ, ds, d, r, rs, e, q⟩ := h
  unfold gInt at e
  split at e
  · obtain ⟨x, rfl, rx⟩ := rs.one1
    cases rx; cases e
    exact .inl ⟨_, rfl, q.same r (.int _)⟩
  · obtain ⟨x, rfl, rx⟩ := rs.one1
    cases rx; cases e
    exact .inr ⟨_, rfl, q.same r (.int _)⟩
  · cases e
theorem tuple_r (h : rDs K mg T gTuple xs H Q) : ∃ p ys, xs = [.ref p] ∧ ((SqL K H p ys ∧ ∀ l, H l = none → Q (.ref l) (upd H l (.tup ys))) ∨ (SqT K H p ys ∧ Q (.ref p) H)) := by
  obtain ⟨w, μ, ds, d, r, rs, e, q⟩ := h
  unfold gTuple at e
  split at e
  · obtain ⟨x, rfl, rx⟩ := rs.one1
    cases e
    obtain ⟨a, vs, rfl, h2, h3⟩ := tupOf_rel r rx rfl
    exact ⟨a, vs, rfl, .inr ⟨h2, q.same r rx⟩⟩
  · obtain ⟨x, rfl, rx⟩ := rs.one1
    split at e
    · next ys hy =>
      cases e
      obtain ⟨a, vs, rfl, h2, h3⟩ := lstOf_rel r rx hy
      exact ⟨a, vs, rfl, .inl ⟨h2, q.tup r h3⟩⟩
    · cases e
  · cases e
theorem list_r (h : rDs K mg T gList xs H Q) : ∃ p ys, xs = [.ref p] ∧ (SqL K H p ys ∨ SqT K H p ys) ∧ ∀ l, H l = none → Q (.ref l) (upd H l (.lst ys)) := by
  obtain ⟨w, μ, ds, d, r, rs, e, q⟩ := h
  unfold gList at e
  split at e
  · obtain ⟨x, rfl, rx⟩ := rs.one1
    split at e
    · next ys hy =>
      cases e
      obtain ⟨a, vs, rfl, h2, h3⟩ := seqOf_rel r rx hy
      exact ⟨a, vs, rfl, h2, q.lst r h3⟩
    · cases e
  · cases e
theorem ints_r {w : Wd} : ∀ {ds : List D} {vs : List V} {bs : List Int}, RelDs K mg w ds vs → intsOf ds = some bs → vs = bs.map V.int
  | [], _, _, .nil, h => by cases h; rfl
  | d :: ds, _, bs, .cons r t, h => by
    unfold intsOf at h
    split at h
    · next e => cases e
    · next b ds' e =>
      cases e
      cases r
      split at h
      · next cs hc => cases h; rw [ints_r t hc]; rfl
      · cases h
    · cases h
theorem max2_r (h : rDs K mg T gMax2 xs H Q) : ∃ i j, xs = [.int i, .int j] ∧ Q (.int (if j > i then j else i)) H := by
  obtain ⟨w, μ, ds, d, r, rs, e, q⟩ := h
  unfold gMax2 at e
  split at e
  · obtain ⟨x, y, rfl, rx, ry⟩ := rs.two2
    cases rx; cases ry; cases e
    exact ⟨_, _, rfl, q.same r (.int _)⟩
  · cases e
end
section
variable {X : Cx} {S : SI} {W : WX} {a b e o : Expr} {es : List Expr} {ma mb mo : EM} {mr : AM} {pos p p' apos : Pos} {x : Str} {k : Nat}
theorem pe_len' (hg : Gl X "len") (hm : X.mg "len" = none) (ha : PA X (e :: es) (TAm X S W mr)) (he : starEach (e :: es) X.env = (false, eval e X.env) :: starEach es X.env := by rfl) (hpl : (backTo pos (starEach es X.env)).any (·.1) = false := by rfl) :
    PE X (.Call (.Name "len" p) (e :: es) [] pos) (TEm X S W <| eAs gLen mr) := pe_As (fun t h => pe_callB (call_len_seq.or (call_len_str.or call_lenD)) hg hm PySem.boot_len h (by decide) (by decide) he hpl) (fun _ _ _ => len_r) ha
theorem pe_abs' (hg : Gl X "abs") (hm : X.mg "abs" = none) (ha : PA X (e :: es) (TAm X S W mr)) (he : starEach (e :: es) X.env = (false, eval e X.env) :: starEach es X.env := by rfl) (hpl : (backTo pos (starEach es X.env)).any (·.1) = false := by rfl) :
    PE X (.Call (.Name "abs" p) (e :: es) [] pos) (TEm X S W <| eAs gAbs mr) := pe_As (fun t h => pe_callB call_abs hg hm (by decide +kernel) h (by decide) (by decide) he hpl) (fun _ _ _ => abs_r) ha
theorem pe_int' (hg : Gl X "int") (hm : X.mg "int" = none) (ha : PA X (e :: es) (TAm X S W mr)) (he : starEach (e :: es) X.env = (false, eval e X.env) :: starEach es X.env := by rfl) (hpl : (backTo pos (starEach es X.env)).any (·.1) = false := by rfl) :
    PE X (.Call (.Name "int" p) (e :: es) [] pos) (TEm X S W <| eAs gInt mr) := pe_As (fun t h => pe_callTy call_int1 hg hm (by decide +kernel) h (by decide) (by decide) he hpl) (fun _ _ _ => int_r) ha
theorem pe_tuple' (hg : Gl X "tuple") (hm : X.mg "tuple" = none) (ha : PA X (e :: es) (TAm X S W mr)) (he : starEach (e :: es) X.env = (false, eval e X.env) :: starEach es X.env := by rfl) (hpl : (backTo pos (starEach es X.env)).any (·.1) = false := by rfl) :
    PE X (.Call (.Name "tuple" p) (e :: es) [] pos) (TEm X S W <| eAs gTuple mr) := pe_As (fun t h => pe_callTy call_tuple_of hg hm (by decide +kernel) h (by decide) (by decide) he hpl) (fun _ _ _ => tuple_r) ha
theorem pe_list' (hg : Gl X "list") (hm : X.mg "list" = none) (ha : PA X (e :: es) (TAm X S W mr)) (he : starEach (e :: es) X.env = (false, eval e X.env) :: starEach es X.env := by rfl) (hpl : (backTo pos (starEach es X.env)).any (·.1) = false := by rfl) :
    PE X (.Call (.Name "list" p) (e :: es) [] pos) (TEm X S W <| eAs gList mr) := pe_As (fun t h => pe_callTy call_list_of hg hm (by decide +kernel) h (by decide) (by decide) he hpl) (fun _ _ _ => list_r) ha
theorem pe_max2' (hc : X.calm = true) (hg : Gl X "max") (hm : X.mg "max" = none) (ha : PA X (e :: es) (TAm X S W mr)) (he : starEach (e :: es) X.env = (false, eval e X.env) :: starEach es X.env := by rfl) (hpl : (backTo pos (starEach es X.env)).any (·.1) = false := by rfl) :
    PE X (.Call (.Name "max" p) (e :: es) [] pos) (TEm X S W <| eAs gMax2 mr) := pe_As (fun t h => pe_callB (call_max2 hc) hg hm (by decide +kernel) h (by decide) (by decide) he hpl) (fun _ _ _ => max2_r) ha
/-- repr: where no guard stands above -/
theorem call_repr_py (hgd : X.A.guards = some []) (hu : X.A.units + 200 < cLine) : CallR X (.builtin "repr") (fun xs H Q => ∃ x d, xs = [x] ∧ Dp X.K H x d ∧ d.showable = true ∧ d.hasDict = false ∧ d.depth ≤ 100 ∧ d.shown.length ≤ sizeLine ∧ Q (.str d.shown) H) := by
  intro pins s σ H xs us Q I r h
  obtain ⟨x, d, rfl, dp, hs, hd, h1, h2, q⟩ := h
  obtain ⟨u, rfl, rx⟩ := vals1 r
  cases dp with
  | non => cases rx; exact PySem.P.repr_of_none ⟨.str _, H, I.tok _, ⟨_, rfl⟩, q⟩
  | bl b =>
    cases rx
    exact PySem.P.repr_of_bool ⟨.str _, H, I.tok _, ⟨_, rfl⟩, by cases b <;> exact q⟩
  | int i =>
    obtain ⟨t, rfl⟩ := rx
    exact PySem.P.repr_of_int (of_decide_eq_true hs) ⟨.str _, H, I.tok _, ⟨_, rfl⟩, q⟩
  | str y =>
    obtain ⟨t, rfl⟩ := rx
    exact PySem.P.repr_of_str ⟨.str _, H, I.tok _, ⟨_, rfl⟩, q⟩ h2
  | @lst a ys ds e es =>
    cases rx
    obtain ⟨as, rd⟩ := Dp.reads I _ _ _ (.lst e es) (show RelV (.ref a) (.ref a) from rfl)
    exact repr_of_reads' rd hs (PyData.noDict_hsm hd) hgd (by omega) (fun _ _ e => e) (fun h' u tk hk => ⟨.str _, H, I.kept hk, ⟨_, rfl⟩, q⟩) h2
  | @tup a ys ds e es =>
    cases rx
    obtain ⟨as, rd⟩ := Dp.reads I _ _ _ (.tup e es) (show RelV (.ref a) (.ref a) from rfl)
    exact repr_of_reads' rd hs (PyData.noDict_hsm hd) hgd (by omega) (fun _ _ e => e) (fun h' u tk hk => ⟨.str _, H, I.kept hk, ⟨_, rfl⟩, q⟩) h2
theorem pe_repr' (hgd : X.A.guards = some []) (hu : X.A.units + 200 < cLine) (hg : Gl X "repr") (hm : X.mg "repr" = none) (ha : PA X (e :: es) (TAm X S W mr)) (he : starEach (e :: es) X.env = (false, eval e X.env) :: starEach es X.env := by rfl) (hpl : (backTo pos (starEach es X.env)).any (·.1) = false := by rfl) :
    PE X (.Call (.Name "repr" p) (e :: es) [] pos) (TEm X S W <| eAs gRepr mr) := pe_As (fun t h => pe_callB (call_repr_py hgd hu) hg hm (by decide +kernel) h (by decide) (by decide) he hpl) (fun xs H Q ⟨w, μ, ds, d, r, rs, e, q⟩ => by
    unfold gRepr at e
    split at e
    · obtain ⟨x, rfl, rx⟩ := rs.one1
      split at e
      · next p' hp =>
        split at e
        · next hh => cases e; exact ⟨x, p', rfl, pyOf_dp r rx hp, hh.1, hh.2.1, hh.2.2.1, hh.2.2.2, q.same r (.str _)⟩
        · cases e
      · cases e
    · cases e) ha
end
def eMtL (g : D → List D → Mem → Option (D × Mem)) (mo : EM) (ma : AM) : EM := fun δ μ => (mo δ μ).bind fun x μ1 => if (lstX μ1 x).isSome = true then (ma δ μ1).bind fun xs μ2 => oOfM (g x xs μ2) else .stuck
def gAppend : D → List D → Mem → Option (D × Mem)
  | .loc l, [y], μ => match μ[l]? with
    | some (.lst xs) => if xs.length < sizeLine then some (.non, μ.set l (.lst (xs ++ [y]))) else none
    | _ => none
  | _, _, _ => none
def gPop : D → List D → Mem → Option (D × Mem)
  | .loc l, [], μ => match μ[l]? with
    | some (.lst xs) => match xs[xs.length - 1]? with
      | some y => some (y, μ.set l (.lst xs.dropLast))
      | none => none
    | _ => none
  | .loc l, [.int i], μ => match μ[l]? with
    | some (.lst xs) => if -9223372036854775808 ≤ i ∧ i < 9223372036854775808 then match seqIndex? i xs.length with
      | some k => match xs[k]? with
        | some y => some (y, μ.set l (.lst (xs.eraseIdx k)))
        | none => none
      | none => none
      else none
    | _ => none
  | _, _, _ => none
section
variable {K : PySem.W.Frag} {mg : Str → Option Value} {T : List (Addr × Str)} {xs : List V} {x y : V} {H : Hp} {Q : VK}
theorem Then1.write {w : Wd} {μ : Mem} {l : Nat} {b b' : Ob} {o' : HO} {d : D} {v : V} (q : Then1 K mg T w (μ.set l b') Q d) (r : RelM K mg T w μ H) (hl : μ[l]? = some b) (hb : RelOb K mg w b' (some o')) (rd : RelD K mg w d v) (ng : b ≠ .gone := by nofun) (ng' : b' ≠ .gone := by nofun) (nl' : ∀ kvs, b' ≠ .lkd kvs := by nofun) (nl : ∀ kvs, b ≠ .lkd kvs := by nofun) : Q v (upd H (w.ρ l) o') :=
  q w v _ (Wd.Le.refl _) (r.write hl ng hb ng' nl' nl) rd
theorem append_r (h : rDm K mg T gAppend x xs H Q) : rAppend x xs H Q := by
  obtain ⟨w, μ, dx, ds, d, μ', r, rx, rs, e, q⟩ := h
  unfold gAppend at e
  split at e
  · obtain ⟨y, rfl, ry⟩ := rs.one1
    cases rx
    split at e
    · next ys hy =>
      split at e
      · next hl =>
        cases e
        obtain ⟨vs, h1, h2⟩ := r.lst hy
        exact ⟨_, vs, y, rfl, rfl, h1, by rw [← h2.length]; exact hl, q.write r hy (.lst (h2.append (.one ry))) .non⟩
      · cases e
    · cases e
  · cases e
theorem RelDs.dropLast {w : Wd} {ds : List D} {vs : List V} (h : RelDs K mg w ds vs) : RelDs K mg w ds.dropLast vs.dropLast := by
  rw [List.dropLast_eq_take, List.dropLast_eq_take, ← h.length]
  exact h.take _
theorem pop_r (h : rDm K mg T gPop x xs H Q) : rPop x xs H Q ∨ rPopAt x xs H Q := by
  obtain ⟨w, μ, dx, ds, d, μ', r, rx, rs, e, q⟩ := h
  unfold gPop at e
  split at e
  · cases rs
    cases rx
    split at e
    · next ys hy =>
      split at e
      · next z hz =>
        cases e
        obtain ⟨vs, h1, h2⟩ := r.lst hy
        obtain ⟨v, hv, rv⟩ := h2.get hz
        exact .inl ⟨_, vs, v, rfl, rfl, h1, by rw [← h2.length]; exact hv, q.write r hy (.lst h2.dropLast) rv⟩
      · cases e
    · cases e
  · obtain ⟨y, rfl, ry⟩ := rs.one1
    cases rx
    cases ry
    split at e
    · next ys hy =>
      split at e
      · next hi =>
        split at e
        · next k hk =>
          split at e
          · next z hz =>
            cases e
            obtain ⟨vs, h1, h2⟩ := r.lst hy
            obtain ⟨v, hv, rv⟩ := h2.get hz
            exact .inr ⟨_, vs, _, k, v, rfl, rfl, h1, by have := hi.1; omega, by have := hi.2; omega, by rw [← h2.length]; exact hk, hv, q.write r hy (.lst (h2.eraseIdx k)) rv⟩
          · cases e
        · cases e
      · cases e
    · cases e
  · cases e
end
section
variable {X : Cx} {S : SI} {W : WX} {e o : Expr} {es : List Expr} {mo : EM} {mr : AM} {pos p apos : Pos}
theorem pe_mtL {g : D → List D → Mem → Option (D × Mem)} {r : V → List V → Hp → VK → Prop} (h : ∀ to t, PE X o to → PA X es t → PE X e (tBM X.K "list" r to t)) (hr : ∀ x xs H Q, rDm X.K X.mg S.T g x xs H Q → r x xs H Q) (ho : PE X o (TEm X S W mo)) (ha : PA X es (TAm X S W mr)) :
    PE X e (TEm X S W <| eMtL g mo mr) := PEi (h _ _ ho ha) fun σ H Q ⟨w, δ, μ, h⟩ => ⟨w, δ, μ, (At.bind h).mono fun x H1 ⟨w1, μ1, d, le, rd, h1⟩ => by
    split at h1
    · next hs =>
      obtain ⟨ys, hy⟩ := Option.isSome_iff_exists.mp hs
      obtain ⟨a, vs, rfl, h2, h3⟩ := lstX_rel h1.2.1 rd hy
      refine ⟨.inl ⟨rfl, vs, .inl (.inl h2)⟩, w1, δ, μ1, (At.bind h1).mono fun zs H2 ⟨w2, μ2, f, le2, re, h2⟩ => ?_⟩
      obtain ⟨z, μ3, e, q⟩ := h2.optM
      exact hr _ _ _ _ ⟨w2, μ2, d, f, z, μ3, h2.2.1, rd.mono le2, re, e, q⟩
    · exact h1.2.2.elim⟩
theorem MtR.ofM {id : String} {r : V → List V → Hp → VK → Prop} (h : MtM X id r) : MtR X id r := fun pins s σ H x xs v us Q I rx rs q => h pins s σ H x xs v us Q I rx rs q
theorem pe_append' (ho : PE X o (TEm X S W mo)) (ha : PA X (e :: es) (TAm X S W mr)) (hbase : attributeBase o "append" X.env (eval o X.env) = eval o X.env := by rfl)
    (hfew : ((backTo pos (starEach (e :: es) X.env)).all (fun x => !x.1) && (backToKw pos (keywordEach [] X.env)).all (fun x => x.1.isSome) && decide ((e :: es).length + ([] : List Keyword).length + (if ([] : List Keyword).isEmpty then 0 else 1) < 30)) = true := by rfl)
    (hline : (apos.endLine == pos.line) = true := by rfl) (hs : starEach (e :: es) X.env = (false, eval e X.env) :: starEach es X.env := by rfl) (hplain : (backTo pos (starEach es X.env)).any (·.1) = false := by rfl) :
    PE X (.Call (.Attribute o "append" apos) (e :: es) [] pos) (TEm X S W <| eMtL gAppend mo mr) :=
  pe_mtL (fun to t ho ha => pe_bm PySem.F.plainAttrs_list PySem.F.slot_list_append PySem.F.type_list_append (MtR.ofM mt_append) ho ha hbase hfew hline hs hplain) (fun _ _ _ _ => append_r) ho ha
theorem pe_pop0' (ho : PE X o (TEm X S W mo)) (hbase : attributeBase o "pop" X.env (eval o X.env) = eval o X.env := by rfl) (hline : (apos.endLine == pos.line) = true := by rfl) :
    PE X (.Call (.Attribute o "pop" apos) [] [] pos) (TEm X S W <| eMtL gPop mo aNil) :=
  PEi (pe_bm0 PySem.F.plainAttrs_list PySem.F.slot_list_pop PySem.F.type_list_pop (MtR.ofM mt_pop |>.or (MtR.ofM mt_popAt)) ho hbase hline) fun σ H Q ⟨w, δ, μ, h⟩ => ⟨w, δ, μ, (At.bind h).mono fun x H1 ⟨w1, μ1, d, le, rd, h1⟩ => by
    split at h1
    · next hs =>
      obtain ⟨ys, hy⟩ := Option.isSome_iff_exists.mp hs
      obtain ⟨a, vs, rfl, h2, h3⟩ := lstX_rel h1.2.1 rd hy
      have h4 : At X.K X.mg S W (RelD X.K X.mg) σ Q w1 δ μ1 H1 (oOfM (gPop d [] μ1)) := h1
      obtain ⟨z, μ3, e, q⟩ := h4.optM
      exact ⟨.inl ⟨rfl, vs, .inl (.inl h2)⟩, pop_r ⟨w1, μ1, d, [], z, μ3, h1.2.1, rd, .nil, e, q⟩⟩
    · exact h1.2.2.elim⟩
end
end Kw
set_option Elab.async false
set_option linter.all false
set_option maxRecDepth 100000
namespace Kw
open PySem PySem.Spec PyProof.Rows L2
inductive SOut where
  | nx (δ : Sv) (μ : Mem)
  | ret (d : D) (μ : Mem)
  | bk (δ : Sv) (μ : Mem)
  | ct (δ : Sv) (μ : Mem)
  | exc (x : Xn) (δ : Sv) (μ : Mem)
  | stuck
abbrev SM := Sv → Mem → SOut
def Out.bindS {α : Type} (o : Out α) (δ : Sv) (k : α → Mem → SOut) : SOut := match o with
  | .ok a μ => k a μ
  | .exc x μ => .exc x δ μ
  | .stuck => .stuck
def SOut.then (o : SOut) (k : Sv → Mem → SOut) : SOut := match o with
  | .nx δ μ => k δ μ
  | o => o
section
variable (K : PySem.W.Frag) (mg : Str → Option Value) (S : SI) (W : WX)
/-- what is wanted behind a statement, by how it ends -/
def STo (D : Ends) (w : Wd) : SOut → Prop
  | .nx δ μ => ∀ w' σ H, w.Le w' → RelM K mg S.T w' μ H → RelSv K mg S w' δ σ → D.nx σ H
  | .ret d μ => ∀ w' v H, w.Le w' → RelM K mg S.T w' μ H → RelD K mg w' d v → D.rt v H
  | .bk δ μ => ∀ w' σ H, w.Le w' → RelM K mg S.T w' μ H → RelSv K mg S w' δ σ → D.bk σ H
  | .ct δ μ => ∀ w' σ H, w.Le w' → RelM K mg S.T w' μ H → RelSv K mg S w' δ σ → D.ct σ H
  | .exc x δ μ => ∀ w' cls dd σ H, w.Le w' → RelM K mg S.T w' μ H → RelSv K mg S w' δ σ → RelX K mg w' x cls dd → W cls dd σ H
  | .stuck => False
def tS (m : SM) : TS := fun D σ H => ∃ w δ μ, RelSv K mg S w δ σ ∧ RelM K mg S.T w μ H ∧ STo K mg S W D w (m δ μ)
/-- a target -/
abbrev GM := D → Sv → Mem → SOut
abbrev GsM := List D → Sv → Mem → SOut
def tG (m : GM) : TG := fun v σ H Q => ∃ D w δ μ d, RelSv K mg S w δ σ ∧ RelM K mg S.T w μ H ∧ RelD K mg w d v ∧ STo K mg S W D w (m d δ μ) ∧ ∀ σ H, D.nx σ H → Q σ H
def tGs (m : GsM) : TGs := fun vs σ H Q => ∃ D w δ μ ds, RelSv K mg S w δ σ ∧ RelM K mg S.T w μ H ∧ RelDs K mg w ds vs ∧ STo K mg S W D w (m ds δ μ) ∧ ∀ σ H, D.nx σ H → Q σ H
/-- what a for walks: the items, as they stand -/
def Walks (T : List (Addr × Str)) (w0 : Wd) (items : List D) (J : It) : Prop := ∀ w μ H i, w0.Lw w → RelM K mg T w μ H →
  (∀ d, items[i]? = some d → J.go i H ∧ ∀ x H', J.yld i H x H' → ∃ w1, w.Le w1 ∧ RelM K mg T w1 μ H' ∧ RelD K mg w1 d x) ∧ (items.length = i → J.stop i H)
abbrev IM := Sv → Mem → Out (List D)
def tI (m : IM) : TI := tM K mg S W (Walks K mg S.T) m
end
abbrev TSm (X : Cx) (S : SI) (W : WX) (m : SM) : TS := tS X.K X.mg S W m
abbrev TGm (X : Cx) (S : SI) (W : WX) (m : GM) : TG := tG X.K X.mg S W m
abbrev TGsm (X : Cx) (S : SI) (W : WX) (m : GsM) : TGs := tGs X.K X.mg S W m
abbrev TIm (X : Cx) (S : SI) (W : WX) (m : IM) : TI := tI X.K X.mg S W m
section
variable {K : PySem.W.Frag} {mg : Str → Option Value} {S : SI} {W : WX} {D D' : Ends} {w w' : Wd} {δ : Sv} {μ : Mem} {σ : L2.St} {H : Hp}
theorem STo.mono (le : w.Le w') {o : SOut} (h : STo K mg S W D w o) : STo K mg S W D w' o := by
  cases o with
  | nx δ μ => exact fun w2 σ H l => h w2 σ H (le.trans l)
  | ret d μ => exact fun w2 σ H l => h w2 σ H (le.trans l)
  | bk δ μ => exact fun w2 σ H l => h w2 σ H (le.trans l)
  | ct δ μ => exact fun w2 σ H l => h w2 σ H (le.trans l)
  | exc x δ μ => exact fun w2 c d σ H l => h w2 c d σ H (le.trans l)
  | stuck => exact h
theorem At.bindS {α β : Type} {R : Wd → α → β → Prop} {o : Out α} {k : α → Mem → SOut} (hs : RelSv K mg S w δ σ) (hm : RelM K mg S.T w μ H) (h : STo K mg S W D w (o.bindS δ k)) :
    At K mg S W R σ (fun v H1 => ∃ w1 μ1 d, w.Le w1 ∧ R w1 d v ∧ RelSv K mg S w1 δ σ ∧ RelM K mg S.T w1 μ1 H1 ∧ STo K mg S W D w1 (k d μ1)) w δ μ H o := by
  refine ⟨hs, hm, ?_⟩
  cases o with
  | ok a μ' => exact fun w1 v H1 le r rd => ⟨w1, μ', a, le, rd, hs.mono le, r, STo.mono le h⟩
  | exc x μ' => exact fun w1 c d H1 le r rx => h w1 c d σ H1 le r (hs.mono le) rx
  | stuck => exact h
end
def sNext : SM := fun δ μ => .nx δ μ
def sSeq (a b : SM) : SM := fun δ μ => (a δ μ).then b
def sRet (ma : EM) : SM := fun δ μ => (ma δ μ).bindS δ fun d μ1 => .ret d μ1
def sDrop (ma : EM) : SM := fun δ μ => (ma δ μ).bindS δ fun _ μ1 => .nx δ μ1
def sIf (mt : TM) (a b : SM) : SM := fun δ μ => (mt δ μ).bindS δ fun k μ1 => if k = true then a δ μ1 else b δ μ1
def sAsg (ma : EM) (g : GM) : SM := fun δ μ => (ma δ μ).bindS δ fun d μ1 => g d δ μ1
def gNm (i : Nat) : GM := fun d δ μ => .nx (δ.set i (some d)) μ
def gsNil : GsM := fun ds δ μ => match ds with
  | [] => .nx δ μ
  | _ => .stuck
def gsCons (g : GM) (gs : GsM) : GsM := fun ds δ μ => match ds with
  | d :: r => (g d δ μ).then (gs r)
  | [] => .stuck
def gSeq (n : Nat) (gs : GsM) : GM := fun d δ μ => match seqOf μ d with
  | some xs => if xs.length = n then gs xs δ μ else .stuck
  | none => .stuck
def sPar (i j : Nat) (ma : AM) : SM := fun δ μ => (ma δ μ).bindS δ fun ds μ1 => match ds with
  | [a, b] => .nx ((δ.set i (some a)).set j (some b)) μ1
  | _ => .stuck
def sAug (i : Nat) (g : D → D → Mem → Option D) (ma : EM) : SM := fun δ μ => match δ[i]? with
  | some (some x) => (ma δ μ).bindS δ fun y μ1 => match x with
    | .lam => .stuck
    | .exc _ _ => .stuck
    | x => match g x y μ1 with
      | some z => .nx (δ.set i (some z)) μ1
      | none => .stuck
  | _ => .stuck
def sBreak : SM := fun δ μ => .bk δ μ
def sCont : SM := fun δ μ => .ct δ μ
section
variable {X : Cx} {S : SI} {W : WX} {a b e tg iter c : Expr} {ma mo mi : EM} {mt : TM} {m m1 m2 : SM} {mg : GM} {mgs : GsM} {mr : AM} {pos p p' pos' : Pos} {x y : Str} {i j n k : Nat} {st : Stmt} {rest body : List Stmt} {es : List Expr}
theorem PGi {e : Expr} {t t' : TG} (h : PG X e t') (i : ∀ v σ H Q, t v σ H Q → t' v σ H Q) : PG X e t := ⟨fun pins s σ H v u Q I r q => h.run pins s σ H v u Q I r (i _ _ _ _ q)⟩
theorem PGsi {e : List Expr} {t t' : TGs} (h : PGs X e t') (i : ∀ v σ H Q, t v σ H Q → t' v σ H Q) : PGs X e t := ⟨fun pins s σ H v u Q I r q => h.run pins s σ H v u Q I r (i _ _ _ _ q)⟩
theorem PGor {e : Expr} {t t' : TG} (h : PG X e t) (h' : PG X e t') : PG X e (fun v σ H Q => t v σ H Q ∨ t' v σ H Q) := ⟨fun pins s σ H v u Q I r q => q.elim (h.run pins s σ H v u Q I r) (h'.run pins s σ H v u Q I r)⟩
theorem pss_nil' : PSs X [] (TSm X S W sNext) := PSsi pss_nil fun D σ H ⟨w, δ, μ, rs, rm, h⟩ => h w σ H (Wd.Le.refl _) rm rs
theorem STo.seq {D : Ends} {w : Wd} {o : SOut} {k : SM} (h : STo X.K X.mg S W D w (o.then k)) : STo X.K X.mg S W { D with nx := TSm X S W k D } w o := by
  cases o with
  | nx δ μ => exact fun w' σ H le rm rs => ⟨w', δ, μ, rs, rm, STo.mono le h⟩
  | _ => exact h
theorem pss_cons' (h1 : PS X st (TSm X S W m1)) (h2 : PSs X rest (TSm X S W m2)) : PSs X (st :: rest) (TSm X S W <| sSeq m1 m2) := PSsi (pss_cons h1 h2) fun D σ H ⟨w, δ, μ, rs, rm, h⟩ => ⟨w, δ, μ, rs, rm, h.seq⟩
theorem pss_one' (h1 : PS X st (TSm X S W m1)) : PSs X [st] (TSm X S W m1) := pss_one h1
theorem ps_ret' (ha : PE X a (TEm X S W ma)) : PS X (.Return (some a) pos) (TSm X S W <| sRet ma) := PSi (ps_ret ha) fun D σ H ⟨w, δ, μ, rs, rm, h⟩ => ⟨w, δ, μ, (At.bindS rs rm h).mono fun v H1 ⟨w1, μ1, d, le, rd, rs1, rm1, q⟩ => q w1 v H1 (Wd.Le.refl _) rm1 rd⟩
theorem ps_cont' : PS X (.Continue pos) (TSm X S W sCont) := PSi ps_continue fun D σ H ⟨w, δ, μ, rs, rm, h⟩ => h w σ H (Wd.Le.refl _) rm rs
theorem ps_expr' (ha : PE X a (TEm X S W ma)) (hs : swapsWith a none pos.line X.env = pure false := by rfl) : PS X (.Expr a pos) (TSm X S W <| sDrop ma) := PSi (ps_expr ha hs) fun D σ H ⟨w, δ, μ, rs, rm, h⟩ => ⟨w, δ, μ, (At.bindS rs rm h).mono fun v H1 ⟨w1, μ1, d, le, rd, rs1, rm1, q⟩ => q w1 σ H1 (Wd.Le.refl _) rm1 rs1⟩
theorem ps_if' {b' : List Stmt} (hc : PT X c (TTm X S W mt)) (h1 : PSs X body (TSm X S W m1)) (h2 : PSs X b' (TSm X S W m2)) : PS X (.If c body b' pos) (TSm X S W <| sIf mt m1 m2) := PSi (ps_if hc h1 h2) fun D σ H ⟨w, δ, μ, rs, rm, h⟩ => ⟨w, δ, μ, (At.bindS rs rm h).mono fun v H1 ⟨w1, μ1, d, le, rd, rs1, rm1, q⟩ => by
  cases rd
  split
  · next hv => rw [if_pos hv] at q; exact ⟨w1, δ, μ1, rs1, rm1, q⟩
  · next hv => rw [if_neg hv] at q; exact ⟨w1, δ, μ1, rs1, rm1, q⟩⟩
theorem ps_asg' (he : PE X e (TEm X S W ma)) (hg : PG X tg (TGm X S W mg)) (hs : swapsWithSole [tg] e pos.line X.env = pure false := by rfl) (hw : swappedStores [tg] e X.env = pure none := by rfl)
    (h1 : (assignEach [tg] X.env).map (·.2) = [assign tg X.env] := by rfl) : PS X (.Assign [tg] e pos) (TSm X S W <| sAsg ma mg) := PSi (ps_asg he hg hs hw h1) fun D σ H ⟨w, δ, μ, rs, rm, h⟩ => ⟨w, δ, μ, (At.bindS rs rm h).mono fun v H1 ⟨w1, μ1, d, le, rd, rs1, rm1, q⟩ => ⟨D, w1, δ, μ1, d, rs1, rm1, rd, q, fun _ _ q => q⟩⟩
theorem ps_set' (hN : X.N.Nodup) (hi : X.N[i]? = some x) (hx : Loc X.env.scope x) (he : PE X e (TEm X S W ma)) (hs : swapsWith e (some (.Name x pos')) pos.line X.env = pure false := by rfl) (hf : X.fn x = true ∨ X.env.scope.names.lookup x = some .local := by first | exact .inl rfl | exact .inr rfl | assumption) :
    PS X (.Assign [.Name x pos'] e pos) (TSm X S W <| sAsg ma (gNm i)) := PSi (ps_set hN hi hx he hs hf) fun D σ H ⟨w, δ, μ, rs, rm, h⟩ => ⟨w, δ, μ, (At.bindS rs rm h).mono fun v H1 ⟨w1, μ1, d, le, rd, rs1, rm1, q⟩ => q w1 _ H1 (Wd.Le.refl _) rm1 (rs1.set i rd)⟩
theorem pg_name' (hN : X.N.Nodup) (hi : X.N[i]? = some x) (hx : Loc X.env.scope x) (hf : X.fn x = true ∨ X.env.scope.names.lookup x = some .local := by first | exact .inl rfl | exact .inr rfl | assumption) : PG X (.Name x pos) (TGm X S W <| gNm i) :=
  PGi (pg_name hN hi hx hf) fun v σ H Q ⟨D, w, δ, μ, d, rs, rm, rd, q, hq⟩ => hq _ _ (q w _ H (Wd.Le.refl _) rm (rs.set i rd))
theorem pgs_nil' : PGs X [] (TGsm X S W gsNil) := PGsi pgs_nil fun v σ H Q ⟨D, w, δ, μ, d, rs, rm, rd, q, hq⟩ => by
  unfold gsNil at q
  split at q
  · cases rd
    exact ⟨rfl, hq _ _ (q w _ H (Wd.Le.refl _) rm rs)⟩
  · exact q.elim
theorem pgs_cons' (h1 : PG X e (TGm X S W mg)) (h2 : PGs X es (TGsm X S W mgs)) (hs : (assignEach (e :: es) X.env).map (·.2) = assign e X.env :: (assignEach es X.env).map (·.2) := by rfl) : PGs X (e :: es) (TGsm X S W <| gsCons mg mgs) :=
  PGsi (pgs_cons h1 h2 hs) fun v σ H Q ⟨D, w, δ, μ, ds, rs, rm, rd, q, hq⟩ => by
    unfold gsCons at q
    split at q
    · next d r =>
      cases rd with
      | @cons _ _ u us r1 r2 =>
        refine ⟨u, us, rfl, { D with nx := fun σ' H' => TGsm X S W mgs us σ' H' Q }, w, δ, μ, d, rs, rm, r1, ?_, fun _ _ q => q⟩
        generalize mg d δ μ = o at q
        cases o with
        | nx δ' μ' => exact fun w' σ' H' le rm' rs' => ⟨D, w', δ', μ', r, rs', rm', RelDs.mono le r2, STo.mono le q, hq⟩
        | _ => exact q
    · exact q.elim
theorem pg_seq' {kk : Nat} (hc : X.calm = true) (h : PGs X es (TGsm X S W mgs)) (hn : (assignEach es X.env).length = n := by rfl) (hst : (assignEach es X.env).findIdx? (·.1) = none := by rfl) : PG X (.Tuple es kk pos) (TGm X S W <| gSeq n mgs) :=
  PGi (PGor (pg_tup hc h hn hst) (pg_unl hc h hn hst)) fun v σ H Q ⟨D, w, δ, μ, d, rs, rm, rd, q, hq⟩ => by
    unfold gSeq at q
    split at q
    · next xs hx =>
      split at q
      · next hl =>
        obtain ⟨a, vs, h1, h2, h3⟩ := seqOf_rel rm rd hx
        rcases h2 with h2 | h2
        · exact .inr ⟨a, vs, h1, h2, by rw [← h3.length]; exact hl, D, w, δ, μ, xs, rs, rm, h3, q, hq⟩
        · exact .inl ⟨a, vs, h1, h2, by rw [← h3.length]; exact hl, D, w, δ, μ, xs, rs, rm, h3, q, hq⟩
      · exact q.elim
    · exact q.elim
theorem ps_par' {px py pt : Pos} {kt k2 pt2} (hc : X.calm = true) (hN : X.N.Nodup) (hi : X.N[i]? = some x) (hj : X.N[j]? = some y) (hij : i ≠ j)
    (hx : X.env.scope.names.lookup x = some .local) (hy : X.env.scope.names.lookup y = some .local) (ha : PA X [a, b] (TAm X S W mr))
    (hw : swappedStores [.Tuple [.Name x px, .Name y py] kt pt] (.Tuple [a, b] k2 pt2) X.env = pure (some [x, y]))
    (hs : swapsWithSole [.Tuple [.Name x px, .Name y py] kt pt] (.Tuple [a, b] k2 pt2) pos.line X.env = pure false := by rfl) :
    PS X (.Assign [.Tuple [.Name x px, .Name y py] kt pt] (.Tuple [a, b] k2 pt2) pos) (TSm X S W <| sPar i j mr) :=
  PSi (ps_par hc hN hi hj hij hx hy ha hw hs) fun D σ H ⟨w, δ, μ, rs, rm, h⟩ => ⟨w, δ, μ, (At.bindS rs rm h).mono fun v H1 ⟨w1, μ1, d, le, rd, rs1, rm1, q⟩ => by
    split at q
    · obtain ⟨v1, v2, rfl, r1, r2⟩ := rd.two2
      exact ⟨v1, v2, rfl, q w1 _ H1 (Wd.Le.refl _) rm1 ((rs1.set i r1).set j r2)⟩
    · exact q.elim⟩
theorem ps_aug' {op : Operator} {r : R2} {g : D → D → Mem → Option D} (ho : OpR X (inplaceOp op) r) (hr : ∀ x y H Q, rD2 X.K X.mg S.T g x y H Q → r x y H Q) (hN : X.N.Nodup) (hi : X.N[i]? = some x) (hx : Loc X.env.scope x) (he : PE X e (TEm X S W ma))
    (hf : X.fn x = true ∨ X.env.scope.names.lookup x = some .local := by first | exact .inl rfl | exact .inr rfl | assumption) : PS X (.AugAssign (.Name x pos') op e pos) (TSm X S W <| sAug i g ma) :=
  PSi (ps_aug hN hi hx he (ti := r) (fun pins s σ H x y v u Q I rx ry q => ho pins s σ H x y v u Q I rx ry q) hf) fun D σ H ⟨w, δ, μ, rs, rm, h⟩ => by
    unfold sAug at h
    split at h
    · next d hd =>
      obtain ⟨v, hv, rv⟩ := rs.2 i d hd
      refine ⟨v, hv, w, δ, μ, (At.bindS rs rm h).mono fun u H1 ⟨w1, μ1, d1, le, rd, rs1, rm1, q⟩ => ?_⟩
      split at q
      · exact q.elim
      · exact q.elim
      · next n1 n2 =>
        split at q
        · next z hz =>
          have rx : RelD X.K X.mg w d v := by
            cases d with
            | lam => exact absurd rfl n1
            | exc c fs => exact absurd rfl (n2 c fs)
            | _ => exact rv
          exact hr _ _ _ _ ⟨w1, μ1, d, d1, z, rm1, rx.mono le, rd, hz, fun w2 v2 H2 le2 rm2 rd2 => q w2 _ H2 le2 rm2 ((rs1.mono le2).set i rd2)⟩
        · exact q.elim
    · exact h.elim
end
end Kw
set_option Elab.async false
set_option linter.all false
set_option maxRecDepth 100000
namespace Kw
open PySem PySem.Spec PyProof.Rows L2
def loopS (g : GM) (b : SM) : List D → SM
  | [], δ, μ => .nx δ μ
  | d :: ds, δ, μ => match g d δ μ with
    | .nx δ1 μ1 => match b δ1 μ1 with
      | .nx δ2 μ2 => loopS g b ds δ2 μ2
      | .ct δ2 μ2 => loopS g b ds δ2 μ2
      | .bk δ2 μ2 => .nx δ2 μ2
      | .ret v μ2 => .ret v μ2
      | .exc x δ2 μ2 => .exc x δ2 μ2
      | .stuck => .stuck
    | .exc x δ2 μ2 => .exc x δ2 μ2
    | _ => .stuck
def sFor (mi : IM) (g : GM) (b : SM) : SM := fun δ μ => (mi δ μ).bindS δ fun items μ1 => loopS g b items δ μ1
def whileS (c : TM) (b : SM) : Nat → SM
  | 0, _, _ => .stuck
  | n + 1, δ, μ => (c δ μ).bindS δ fun k μ1 => if k = true then match b δ μ1 with
      | .nx δ2 μ2 => whileS c b n δ2 μ2
      | .ct δ2 μ2 => whileS c b n δ2 μ2
      | .bk δ2 μ2 => .nx δ2 μ2
      | .ret v μ2 => .ret v μ2
      | .exc x δ2 μ2 => .exc x δ2 μ2
      | .stuck => .stuck
    else .nx δ μ1
def sWhile (fuel : Sv → Mem → Nat) (c : TM) (b : SM) : SM := fun δ μ => whileS c b (fuel δ μ) δ μ
section
variable {X : Cx} {S : SI} {W : WX} {a b e tg iter c : Expr} {ma : EM} {mt : TM} {m m1 m2 : SM} {g : GM} {mr : AM} {mi : IM} {pos p : Pos} {body : List Stmt} {es : List Expr}
theorem ps_for' (hp : PassesOwn (model X.prog X.w) X.A X.env X.xe) (hc : X.calm = true) (hi : PI X tg iter (TIm X S W mi)) (hg : PG X tg (TGm X S W g)) (hb : PSs X body (TSm X S W m))
    (hs : ∀ x, foldedSetIterable iter X.env x = pure x := by intro _; rfl) : PS X (.For tg iter body [] pos) (TSm X S W <| sFor mi g m) :=
  PSi (ps_for hp hc hi hg hb hs) fun D σ H ⟨w, δ, μ, rs, rm, h⟩ => ⟨w, δ, μ, (At.bindS rs rm h).mono fun J H1 ⟨w1, μ1, items, le1, wk, rs1, rm1, q⟩ => by
    refine ⟨fun i n σ H => n + i = items.length ∧ ∃ w δ μ, w1.Le w ∧ RelSv X.K X.mg S w δ σ ∧ RelM X.K X.mg S.T w μ H ∧ STo X.K X.mg S W D w (loopS g m (items.drop i) δ μ), ⟨items.length, rfl, w1, δ, μ1, Wd.Le.refl _, rs1, rm1, q⟩, ?_⟩
    intro i n σ H ⟨hn, w2, δ2, μ2, le2, rs2, rm2, q2⟩
    obtain ⟨k1, k2⟩ := wk w2 μ2 H i le2.lw rm2
    by_cases hi : i < items.length
    · right
      have hd : items[i]? = some items[i] := List.getElem?_eq_getElem hi
      obtain ⟨go, yl⟩ := k1 _ hd
      rw [List.drop_eq_getElem_cons hi] at q2
      refine ⟨go, fun σ' H' => ∃ w δ μ, w1.Le w ∧ RelSv X.K X.mg S w δ σ' ∧ RelM X.K X.mg S.T w μ H' ∧ STo X.K X.mg S W D w (loopS g m (items.drop (i + 1)) δ μ), fun σ' H' hN => ⟨items.length - (i + 1), by omega, by omega, hN⟩, fun x H' hy => ?_⟩
      obtain ⟨w3, le3, rm3, rd⟩ := yl x H' hy
      have q3 := STo.mono le3 q2
      generalize items[i] = d at q3 rd
      unfold loopS at q3
      refine ⟨{ D with nx := fun σ' H' => TSm X S W m { D with nx := fun σ' H' => ∃ w δ μ, w1.Le w ∧ RelSv X.K X.mg S w δ σ' ∧ RelM X.K X.mg S.T w μ H' ∧ STo X.K X.mg S W D w (loopS g m (items.drop (i + 1)) δ μ), ct := fun σ' H' => ∃ w δ μ, w1.Le w ∧ RelSv X.K X.mg S w δ σ' ∧ RelM X.K X.mg S.T w μ H' ∧ STo X.K X.mg S W D w (loopS g m (items.drop (i + 1)) δ μ), bk := D.nx } σ' H' }, w3, δ2, μ2, d, rs2.mono le3, rm3, rd, ?_, fun _ _ q => q⟩
      generalize g d δ2 μ2 = o at q3
      cases o with
      | nx δ3 μ3 =>
        intro w4 σ4 H4 le4 rm4 rs4
        refine ⟨w4, δ3, μ3, rs4, rm4, ?_⟩
        have q4 := STo.mono le4 q3
        have l14 := (le2.trans le3).trans le4
        show STo X.K X.mg S W _ w4 (m δ3 μ3)
        simp only at q4
        generalize m δ3 μ3 = o at q4
        cases o with
        | nx δ5 μ5 => exact fun w5 σ5 H5 le5 rm5 rs5 => ⟨w5, δ5, μ5, l14.trans le5, rs5, rm5, STo.mono le5 q4⟩
        | ct δ5 μ5 => exact fun w5 σ5 H5 le5 rm5 rs5 => ⟨w5, δ5, μ5, l14.trans le5, rs5, rm5, STo.mono le5 q4⟩
        | bk δ5 μ5 => exact q4
        | ret v μ5 => exact q4
        | exc x δ5 μ5 => exact q4
        | stuck => exact q4
      | exc x δ3 μ3 => exact q3
      | _ => exact q3.elim
    · left
      rw [List.drop_eq_nil_of_le (by omega)] at q2
      exact ⟨k2 (by omega), q2 w2 σ H (Wd.Le.refl _) rm2 rs2⟩⟩
theorem ps_while' {fuel : Sv → Mem → Nat} (hp : PassesOwn (model X.prog X.w) X.A X.env X.xe) (hc : PT X c (TTm X S W mt)) (hb : PSs X body (TSm X S W m)) : PS X (.While c body [] pos) (TSm X S W <| sWhile fuel mt m) :=
  PSi (ps_while hp hc hb) fun D σ H ⟨w, δ, μ, rs, rm, h⟩ => by
    refine ⟨fun n σ H => ∃ w δ μ, RelSv X.K X.mg S w δ σ ∧ RelM X.K X.mg S.T w μ H ∧ STo X.K X.mg S W D w (whileS mt m n δ μ), ⟨fuel δ μ, w, δ, μ, rs, rm, h⟩, ?_⟩
    intro n σ H ⟨w1, δ1, μ1, rs1, rm1, q1⟩
    cases n with
    | zero => exact q1.elim
    | succ n =>
      refine ⟨w1, δ1, μ1, (At.bindS rs1 rm1 q1).mono fun v H2 ⟨w2, μ2, k, le2, rk, rs2, rm2, q2⟩ => ?_⟩
      cases rk
      split
      · next hk =>
        rw [if_pos hk] at q2
        refine ⟨fun σ' H' => ∃ w δ μ, RelSv X.K X.mg S w δ σ' ∧ RelM X.K X.mg S.T w μ H' ∧ STo X.K X.mg S W D w (whileS mt m n δ μ), fun σ' H' hN => ⟨n, Nat.lt_succ_self n, hN⟩, w2, δ1, μ2, rs2, rm2, ?_⟩
        generalize m δ1 μ2 = o at q2
        cases o with
        | nx δ5 μ5 => exact fun w5 σ5 H5 le5 rm5 rs5 => ⟨w5, δ5, μ5, rs5, rm5, STo.mono le5 q2⟩
        | ct δ5 μ5 => exact fun w5 σ5 H5 le5 rm5 rs5 => ⟨w5, δ5, μ5, rs5, rm5, STo.mono le5 q2⟩
        | bk δ5 μ5 => exact q2
        | ret v μ5 => exact q2
        | exc x δ5 μ5 => exact q2
        | stuck => exact q2
      · next hk =>
        rw [if_neg hk] at q2
        exact q2 w2 _ H2 (Wd.Le.refl _) rm2 rs2
/-- the items of what never changes -/
def seqV : D → Option (List D)
  | .tup xs => some xs
  | .lst xs => some xs
  | .scr xs => some xs
  | _ => none
def iSeq (ma : EM) : IM := fun δ μ => (ma δ μ).bind fun x μ1 => match seqV x with
  | some xs => .ok xs μ1
  | none => .stuck
def iRange1 (mr : AM) : IM := fun δ μ => (mr δ μ).bind fun xs μ1 => match xs with
  | [.int j] => if -4611686018427387904 ≤ j ∧ j < 4611686018427387904 then .ok ((List.range j.toNat).map fun (k : Nat) => .int (k : Int)) μ1 else .stuck
  | _ => .stuck
theorem PIi {t t' : TI} (h : PI X tg iter t') (i : ∀ σ H Q, t σ H Q → t' σ H Q) : PI X tg iter t := ⟨fun pins s σ H R I q => h.run pins s σ H R I (i _ _ _ q)⟩
theorem PIor {t t' : TI} (h : PI X tg iter t) (h' : PI X tg iter t') : PI X tg iter (fun σ H Q => t σ H Q ∨ t' σ H Q) := ⟨fun pins s σ H R I q => q.elim (h.run pins s σ H R I) (h'.run pins s σ H R I)⟩
section
variable {K : PySem.W.Frag} {mg : Str → Option Value} {T : List (Addr × Str)} {w0 : Wd}
theorem walks_rng {i : Int} {n : Nat} : Walks K mg T w0 ((List.range n).map fun (k : Nat) => .int (i + (k : Int))) (Itr i n) := fun w μ H k le rm => by
  refine ⟨fun d hd => ?_, fun hk => by simp at hk; exact Nat.le_of_eq hk⟩
  have hk : k < n := by
    have := (List.getElem?_eq_some_iff.mp hd).1
    simpa using this
  refine ⟨hk, fun x H' ⟨e, ex⟩ => ⟨w, Wd.Le.refl _, e ▸ rm, ?_⟩⟩
  rw [List.getElem?_map, List.getElem?_range hk] at hd
  cases hd
  subst ex
  exact .int _
theorem walks_lst {a : Addr} {vs : List V} {ds : List D} (hs : SqL K w0.φ a vs ∨ w0.fr a = some (.lst vs)) (hr : RelDs K mg w0 ds vs) : Walks K mg T w0 ds (Itl K a) := fun w μ H k le rm => by
  have hH : SqL K H a vs := scr_H rm (hs.elim (fun h => .inl (sqL_mono le.φ h)) fun h => .inr (by rw [le.fr]; exact h))
  refine ⟨fun d hd => ?_, fun hk => ⟨vs, hH, by rw [← hr.length]; exact Nat.le_of_eq hk⟩⟩
  obtain ⟨v, hv, rv⟩ := hr.get hd
  refine ⟨⟨vs, v, hH, hv⟩, fun x H' ⟨e, ex⟩ => ⟨w, Wd.Le.refl _, e ▸ rm, ?_⟩⟩
  have := ex vs hH
  rw [hv] at this
  cases this
  exact rv.monoW le
theorem walks_tup {a : Addr} {vs : List V} {ds : List D} (hs : SqT K w0.φ a vs) (hr : RelDs K mg w0 ds vs) : Walks K mg T w0 ds (Itt K a) := fun w μ H k le rm => by
  have hH : SqT K H a vs := sqT_mono rm.φ (sqT_mono le.φ hs)
  refine ⟨fun d hd => ?_, fun hk => ⟨vs, hH, by rw [← hr.length]; exact Nat.le_of_eq hk⟩⟩
  obtain ⟨v, hv, rv⟩ := hr.get hd
  refine ⟨⟨vs, v, hH, hv⟩, fun x H' ⟨e, ex⟩ => ⟨w, Wd.Le.refl _, e ▸ rm, ?_⟩⟩
  have := ex vs hH
  rw [hv] at this
  cases this
  exact rv.monoW le
end
theorem pi_seq' (ha : PE X a (TEm X S W ma)) : PI X tg a (TIm X S W <| iSeq ma) := PIi (PIor (pi_list ha) (pi_tup ha)) fun σ H R ⟨w, δ, μ, h⟩ => by
  have h3 := h.2.2
  unfold iSeq at h3
  cases e : ma δ μ with
  | stuck => rw [e] at h3; exact h3.elim
  | exc x μ' => rw [e] at h3; exact .inl ⟨w, δ, μ, h.1, h.2.1, by rw [e]; exact h3⟩
  | ok d μ' =>
    rw [e] at h3
    cases d with
    | tup xs =>
      refine .inr ⟨w, δ, μ, h.1, h.2.1, ?_⟩
      rw [e]
      intro w' v H' le rm rd
      cases rd with
      | @tup b vs ds e rs => exact ⟨b, rfl, ⟨vs, sqT_mono rm.φ e⟩, h3 w' _ H' le rm (walks_tup e rs)⟩
    | lst xs =>
      refine .inl ⟨w, δ, μ, h.1, h.2.1, ?_⟩
      rw [e]
      intro w' v H' le rm rd
      cases rd with
      | @lst b vs ds e rs => exact ⟨b, rfl, ⟨vs, .inl (.inl (rm.φ _ _ e))⟩, h3 w' _ H' le rm (walks_lst (.inl (.inl (.inl e))) rs)⟩
    | scr xs =>
      refine .inl ⟨w, δ, μ, h.1, h.2.1, ?_⟩
      rw [e]
      intro w' v H' le rm rd
      cases rd with
      | @scr b vs ds e rs => exact ⟨b, rfl, ⟨vs, scr_H rm e⟩, h3 w' _ H' le rm (walks_lst e rs)⟩
    | _ => exact h3.elim
theorem pi_range1' (hg : Gl X "range") (hm : X.mg "range" = none) (ha : PA X [a] (TAm X S W mr)) (hs : starEach [a] X.env = [(false, eval a X.env)] := by rfl) : PI X tg (.Call (.Name "range" p) [a] [] pos) (TIm X S W <| iRange1 mr) :=
  PIi (pi_range1 hg hm ha hs) fun σ H R ⟨w, δ, μ, h⟩ => ⟨w, δ, μ, (At.bind h).mono fun v H1 ⟨w1, μ1, d, le, rd, h1⟩ => by
    split at h1
    · next j =>
      obtain ⟨x, rfl, rx⟩ := rd.one1
      cases rx
      split at h1
      · next hj =>
        refine ⟨j, rfl, by omega, by omega, h1.2.2 w1 _ H1 (Wd.Le.refl _) h1.2.1 ?_⟩
        have := walks_rng (K := X.K) (mg := X.mg) (T := S.T) (w0 := w1) (i := 0) (n := j.toNat)
        simpa using this
      · exact h1.2.2.elim
    · exact h1.2.2.elim⟩
end
end Kw
set_option Elab.async false
set_option linter.all false
set_option maxRecDepth 100000
namespace Kw
open PySem PySem.Spec PyProof.Rows L2
def wipeD (δ : Sv) : List Nat → Sv
  | [] => δ
  | v :: vs => (wipeD δ vs).set v none
theorem wipe_get (σ : L2.St) : ∀ (vs : List Nat) (i : Nat), i ∉ vs → (wipe σ vs)[i]? = σ[i]?
  | [], i, _ => rfl
  | v :: vs, i, h => by
    unfold wipe
    rw [List.getElem?_set_ne (fun e => h (by rw [e]; exact List.mem_cons_self)), wipe_get σ vs i fun hi => h (List.mem_cons_of_mem _ hi)]
theorem wipe_in (σ : L2.St) : ∀ (vs : List Nat) (i : Nat), i ∈ vs → i < σ.length → (wipe σ vs)[i]? = some none
  | v :: vs, i, h, hl => by
    unfold wipe
    by_cases e : v = i
    · subst e
      rw [List.getElem?_set_self (by rw [wipe_length]; exact hl)]
    · rw [List.getElem?_set_ne e]
      exact wipe_in σ vs i ((List.mem_cons.mp h).resolve_left fun z => e z.symm) hl
theorem wipe_eq {σ τ : L2.St} {vs : List Nat} (hl : σ.length = τ.length) (h : ∀ i, i ∉ vs → σ[i]? = τ[i]?) : wipe σ vs = wipe τ vs := by
  refine List.ext_getElem? fun i => ?_
  by_cases hi : i ∈ vs
  · by_cases hn : i < σ.length
    · rw [wipe_in σ vs i hi hn, wipe_in τ vs i hi (by omega)]
    · rw [List.getElem?_eq_none (by rw [wipe_length]; omega), List.getElem?_eq_none (by rw [wipe_length]; omega)]
  · rw [wipe_get σ vs i hi, wipe_get τ vs i hi, h i hi]
theorem wipe_set {σ : L2.St} {vs : List Nat} {i : Nat} (hi : i ∈ vs) (v : Option V) : wipe (σ.set i v) vs = wipe σ vs :=
  wipe_eq (List.length_set ..) fun j hj => List.getElem?_set_ne fun e => hj (by rw [← e]; exact hi)
theorem wipe_wipe (σ : L2.St) (vs : List Nat) : wipe (wipe σ vs) vs = wipe σ vs := wipe_eq (wipe_length ..) fun j hj => wipe_get σ vs j hj
theorem RelSv.forget {K : PySem.W.Frag} {mg : Str → Option Value} {S : SI} {w : Wd} {δ : Sv} {σ : L2.St} (h : RelSv K mg S w δ σ) (i : Nat) : RelSv K mg S w (δ.set i Option.none) (σ.set i Option.none) := by
  refine ⟨by simp [h.1], fun j e he => ?_⟩
  by_cases hj : i = j
  · subst hj
    by_cases hl : i < δ.length
    · rw [List.getElem?_set_self hl] at he
      cases he
    · rw [List.getElem?_eq_none (by simpa using hl)] at he
      cases he
  · rw [List.getElem?_set_ne hj] at he
    rw [List.getElem?_set_ne hj]
    exact h.2 j e he
theorem RelSv.wipe {K : PySem.W.Frag} {mg : Str → Option Value} {S : SI} {w : Wd} {δ : Sv} {σ : L2.St} (h : RelSv K mg S w δ σ) : ∀ vs : List Nat, RelSv K mg S w (wipeD δ vs) (L2.wipe σ vs)
  | [] => h
  | v :: vs => (RelSv.wipe h vs).forget v
/-- a target that stores into the slots vs alone, by values and by data -/
def NmTg (K : PySem.W.Frag) (mg : Str → Option Value) (S : SI) (vs : List Nat) (gV : TG) (g : GM) : Prop := ∀ w δ μ d v (σ : L2.St) H Q δ' μ', RelSv K mg S w δ σ → RelM K mg S.T w μ H → RelD K mg w d v → g d δ μ = .nx δ' μ' →
  (∀ σ', RelSv K mg S w δ' σ' → L2.wipe σ' vs = L2.wipe σ vs → μ' = μ → Q σ' H) → gV v σ H Q
def NmTgs (K : PySem.W.Frag) (mg : Str → Option Value) (S : SI) (vs : List Nat) (gV : TGs) (g : GsM) : Prop := ∀ w δ μ d v (σ : L2.St) H Q δ' μ', RelSv K mg S w δ σ → RelM K mg S.T w μ H → RelDs K mg w d v → g d δ μ = .nx δ' μ' →
  (∀ σ', RelSv K mg S w δ' σ' → L2.wipe σ' vs = L2.wipe σ vs → μ' = μ → Q σ' H) → gV v σ H Q
section
variable {K : PySem.W.Frag} {mg : Str → Option Value} {S : SI} {vs : List Nat}
theorem nmTg {i : Nat} (hi : i ∈ vs) : NmTg K mg S vs (gName i) (gNm i) := fun w δ μ d v σ H Q δ' μ' rs rm rd e h => by
  cases e
  exact h _ (rs.set i rd) (wipe_set hi _) rfl
theorem nmTgs_nil : NmTgs K mg S vs gNil gsNil := fun w δ μ d v σ H Q δ' μ' rs rm rd e h => by
  unfold gsNil at e
  split at e
  · cases rd; cases e
    exact ⟨rfl, h _ rs rfl rfl⟩
  · cases e
theorem nmTg_seq {n : Nat} {gV : TGs} {g : GsM} (h2 : NmTgs K mg S vs gV g) : NmTg K mg S vs (fun v σ H Q => gTup K n gV v σ H Q ∨ gUnl K n gV v σ H Q) (gSeq n g) := fun w δ μ d v σ H Q δ' μ' rs rm rd e h => by
  unfold gSeq at e
  split at e
  · next xs hx =>
    split at e
    · next hl =>
      obtain ⟨a, us, h1, h3, h4⟩ := seqOf_rel rm rd hx
      rcases h3 with h3 | h3
      · exact .inr ⟨a, us, h1, h3, by rw [← h4.length]; exact hl, h2 w δ μ _ _ σ H Q δ' μ' rs rm h4 e h⟩
      · exact .inl ⟨a, us, h1, h3, by rw [← h4.length]; exact hl, h2 w δ μ _ _ σ H Q δ' μ' rs rm h4 e h⟩
    · cases e
  · cases e
end
/-- no exception -/
def W0 : WX := fun _ _ _ _ => False
def lcL (g : GM) (mt : TM) (me : EM) (δ : Sv) : List D → Mem → Out (List D)
  | [], μ => .ok [] μ
  | d :: ds, μ => match g d δ μ with
    | .nx δ1 μ1 => match mt δ1 μ1 with
      | .ok true μ2 => match me δ1 μ2 with
        | .ok y μ3 => match lcL g mt me δ ds μ3 with
          | .ok ys μ4 => .ok (y :: ys) μ4
          | _ => .stuck
        | _ => .stuck
      | .ok false μ2 => lcL g mt me δ ds μ2
      | _ => .stuck
    | _ => .stuck
def eLc (mi : IM) (g : GM) (mt : TM) (me : EM) (vs : List Nat) : EM := fun δ μ => (mi δ μ).bind fun items μ1 => match lcL g mt me (wipeD δ vs) items μ1 with
  | .ok ys μ2 => if ys.length ≤ sizeLine then .ok (.lst ys) μ2 else .stuck
  | _ => .stuck
section
variable {X : Cx} {S : SI} {W : WX} {elt tg iter : Expr} {ifs : List Expr} {scope : Scope} {own : List (Str × Nat)} {pos : Pos} {mi : IM} {g : GM} {gV : TG} {mt : TM} {me : EM}
theorem tLc_of {σ : L2.St} {H : Hp} {Q : VK} {vs : List Nat} (hn : NmTg X.K X.mg S vs gV g) (h : tM X.K X.mg S W (RelD X.K X.mg) (eLc mi g mt me vs) σ H Q) : tLc (TIm X S W mi) gV (TTm X S W0 mt) (TEm X S W0 me) vs σ H Q := by
  obtain ⟨w, δ, μ, h⟩ := h
  refine ⟨w, δ, μ, (At.bind h).mono fun J H1 ⟨w1, μ1, items, le1, wk, h1⟩ => ?_⟩
  have rs1 := h1.1
  have rm1 := h1.2.1
  have h3 := h1.2.2
  cases e : lcL g mt me (wipeD δ vs) items μ1 with
  | stuck => rw [e] at h3; exact h3.elim
  | exc x μ' => rw [e] at h3; exact h3.elim
  | ok ys μ2 =>
    rw [e] at h3
    simp only at h3
    split at h3
    case isFalse => exact h3.elim
    case isTrue hsz =>
    intro D hD
    obtain ⟨f1, f2, fg, f3⟩ := rm1.free hD
    refine ⟨fun i m H => m + i = items.length ∧ ∃ (w : Wd) (μ : Mem) (acc : List Kw.D × List V) (zs : List Kw.D), w1.Lw w ∧ w.gr = upd w1.gr D (.lst acc.2) ∧ RelDs X.K X.mg w acc.1 acc.2 ∧ RelM X.K X.mg S.T w μ H ∧ lcL g mt me (wipeD δ vs) (items.drop i) μ = .ok zs μ2 ∧ ys = acc.1 ++ zs, ⟨items.length, rfl, w1.grow D (.lst []), μ1, ([], []), ys, w1.grow_lw D _, rfl, .nil, rm1.grow hD _, e, rfl⟩, ?_⟩
    rintro i m H ⟨hm, w2, μ3, ⟨ds, us⟩, zs, lw, hgr, racc, rm, hz, rfl⟩
    simp only at hgr racc hz
    obtain ⟨k1, k2⟩ := wk w2 μ3 H i lw rm
    have hgD : w2.gr D = some (.lst us) := by rw [hgr, upd_same]
    by_cases hi : i < items.length
    · right
      obtain ⟨go, yl⟩ := k1 _ (List.getElem?_eq_getElem hi)
      rw [List.drop_eq_getElem_cons hi] at hz
      refine ⟨go, fun H' => ∃ (w : Wd) (μ : Mem) (acc : List Kw.D × List V) (zs' : List Kw.D), w1.Lw w ∧ w.gr = upd w1.gr D (.lst acc.2) ∧ RelDs X.K X.mg w acc.1 acc.2 ∧ RelM X.K X.mg S.T w μ H' ∧ lcL g mt me (wipeD δ vs) (items.drop (i + 1)) μ = .ok zs' μ2 ∧ ds ++ zs = acc.1 ++ zs', fun H' hN => ⟨items.length - (i + 1), by omega, by omega, hN⟩, fun x H' hy => ?_⟩
      obtain ⟨w3, le3, rm3, rd⟩ := yl x H' hy
      generalize items[i] = d at hz rd
      unfold lcL at hz
      have lw3 := lw.trans le3.lw
      have rs3 : RelSv X.K X.mg S w3 (wipeD δ vs) (L2.wipe σ vs) := (rs1.wipe vs).monoW lw3
      cases eg : g d (wipeD δ vs) μ3 with
      | nx δ4 μ4 =>
        rw [eg] at hz
        simp only at hz
        refine hn w3 _ μ3 d x _ H' _ δ4 μ4 rs3 rm3 rd eg fun σ' rs4 hw hμ => ?_
        subst hμ
        refine ⟨hw.trans (wipe_wipe σ vs), w3, δ4, μ4, rs4, rm3, ?_⟩
        cases et : mt δ4 μ4 with
        | ok b μ5 =>
          rw [et] at hz
          intro w5 b' H5 le5 rm5 hb
          cases hb
          have hgr5 : w5.gr = upd w1.gr D (.lst us) := by rw [le5.gr, le3.gr]; exact hgr
          cases b with
          | true =>
            simp only at hz
            rw [if_pos rfl]
            refine ⟨w5, δ4, μ5, rs4.mono le5, rm5, ?_⟩
            cases ee : me δ4 μ5 with
            | ok y μ6 =>
              rw [ee] at hz
              simp only at hz
              intro w6 v H6 le6 rm6 ry
              cases el : lcL g mt me (wipeD δ vs) (items.drop (i + 1)) μ6 with
              | ok zs' μ7 =>
                rw [el] at hz
                cases hz
                have hgr6 : w6.gr = upd w1.gr D (.lst us) := by rw [le6.gr]; exact hgr5
                have hg6 : w6.gr D = some (.lst us) := by rw [hgr6, upd_same]
                have racc6 : RelDs X.K X.mg w6 ds us := ((racc.mono le3).mono le5).mono le6
                refine ⟨us, rm6.gr D _ hg6, ?_, w6.grow D (.lst (us ++ [v])), μ6, (ds ++ [y], us ++ [v]), zs', ?_, ?_, ?_, rm6.regrow hg6 rfl _, el, by simp⟩
                · have l1 := racc.length
                  have l2 := hsz
                  simp only [List.length_append, List.length_cons] at l2
                  omega
                · exact ((lw3.trans le5.lw).trans le6.lw).trans (w6.grow_lw D _)
                · show upd w6.gr D _ = _
                  rw [hgr6]
                  funext a
                  by_cases ha : a = D
                  · subst ha; rw [upd_same, upd_same]
                  · rw [upd_ne ha, upd_ne ha, upd_ne ha]
                · exact RelDs.monoW (w6.grow_lw D _) (racc6.append (.one ry))
              | exc x μ' => rw [el] at hz; cases hz
              | stuck => rw [el] at hz; cases hz
            | exc x μ' => rw [ee] at hz; cases hz
            | stuck => rw [ee] at hz; cases hz
          | false =>
            simp only at hz
            rw [if_neg (by decide)]
            exact ⟨w5, μ5, (ds, us), zs, lw3.trans le5.lw, hgr5, (racc.mono le3).mono le5, rm5, hz, rfl⟩
        | exc x μ' => rw [et] at hz; cases hz
        | stuck => rw [et] at hz; cases hz
      | _ => rw [eg] at hz; cases hz
    · left
      refine ⟨k2 (by omega), ?_⟩
      rw [List.drop_eq_nil_of_le (by omega)] at hz
      unfold lcL at hz
      cases hz
      rw [List.append_nil] at h3
      have rdone := rm.done (g := w1.gr) hgD (fun a ha => by rw [hgr, upd_ne ha]) fg (fun _ => nofun)
      refine h3 (w2.done D (.lst us) w1.gr) _ H ⟨lw.n, lw.ρ, fun a o ha => ?_, lw.fr, rfl, lw.lk⟩ rdone (.lst upd_same (RelDs.monoW ?_ racc))
      · have : a ≠ D := fun z => by rw [z, f1] at ha; cases ha
        show upd w2.φ D _ a = _
        rw [upd_ne this]
        exact lw.φ a o ha
      · refine ⟨Nat.le_refl _, fun _ _ => rfl, fun a o ha => ?_, rfl, rfl⟩
        have : a ≠ D := fun z => by
          have := (rm.dg D _ hgD).1
          rw [← z, ha] at this; cases this
        show upd w2.φ D _ a = _
        rw [upd_ne this]
        exact ha
theorem pe_lc' (hc : X.calm = true) (hN : X.N.Nodup) (hi : PI X tg iter (TIm X S W mi)) (ok : BlkOk X.N X.env.scope scope own) (hn : NmTg X.K X.mg S (own.map (·.2)) gV g)
    (hg : ∀ (s : Shared) (H : Hp) (C : Addr) (cl : List (Str × Addr)) (fp : List Addr), PG (X.blk s H scope (compEnvC scope cl C X.env) fp) tg gV) (ht : ∀ (s : Shared) (H : Hp) (C : Addr) (cl : List (Str × Addr)) (fp : List Addr), PTs (X.blk s H scope (compEnvC scope cl C X.env) fp) ifs (TTm X S W0 mt))
    (he : ∀ (s : Shared) (H : Hp) (C : Addr) (cl : List (Str × Addr)) (fp : List Addr), PE (X.blk s H scope (compEnvC scope cl C X.env) fp) elt (TEm X S W0 me)) (hs : ∀ x, foldedSetIterable iter X.env x = pure x := by intro _; rfl) :
    PE X (.ListComp elt [⟨tg, iter, ifs, 0⟩] scope pos) (TEm X S W <| eLc mi g mt me (own.map (·.2))) :=
  PEi (pe_lc hc hN hi ok hg ht he hs) fun σ H Q h => tLc_of hn h
def tYesM : TM := fun _ μ => .ok true μ
theorem pts_nil' : PTs X [] (TTm X S W tYesM) := ⟨fun pins s σ H Q I ⟨w, δ, μ, h⟩ => pts_nil.run pins s σ H Q I (h.2.2 w true H (Wd.Le.refl _) h.2.1 rfl)⟩
theorem pts_one' {c : Expr} (h : PT X c (TTm X S W mt)) : PTs X [c] (TTm X S W mt) := pts_one h
end
end Kw
set_option Elab.async false
set_option linter.all false
set_option maxRecDepth 100000
namespace Kw
open PySem PySem.Spec PyProof.Rows L2
section
variable (K : PySem.W.Frag) (mg : Str → Option Value) (T : List (Addr × Str))
def rDsM (g : List D → Mem → Option (D × Mem)) : List V → Hp → VK → Prop := fun xs H Q => ∃ w μ ds d μ', RelM K mg T w μ H ∧ RelDs K mg w ds xs ∧ g ds μ = some (d, μ') ∧ ∀ w' v H', w.Le w' → RelM K mg T w' μ' H' → RelD K mg w' d v → Q v H'
end
section
variable {K : PySem.W.Frag} {mg : Str → Option Value} {T : List (Addr × Str)} {w : Wd} {μ : Mem} {H : Hp} {Q : VK}
theorem put_new (r : RelM K mg T w μ H) {o : HO} {b : Ob} (hb : RelOb K mg w b (some o)) (q : ∀ w' v H', w.Le w' → RelM K mg T w' (μ ++ [b]) H' → RelD K mg w' (.loc μ.length) v → Q v H') (ng : b ≠ .gone := by nofun) (nl : ∀ kvs, b ≠ .lkd kvs := by nofun) : ∀ p, H p = none → Q (.ref p) (upd H p o) := fun p hp => by
  have := RelD.loc (K := K) (mg := mg) (w := w.put p) (l := μ.length) (by rw [← r.n]; exact Nat.lt_succ_self _)
  rw [← r.n, Wd.put_at, r.n] at this
  exact q (w.put p) _ _ (w.put_le p) (r.put hp hb ng nl) this
end
def eAsM (g : List D → Mem → Option (D × Mem)) (ma : AM) : EM := fun δ μ => (ma δ μ).bind fun xs μ1 => oOfM (g xs μ1)
def gNewL : List D → Mem → Option (D × Mem) := fun ds μ => if ds.length ≤ sizeLine then some (.loc μ.length, μ ++ [.lst ds]) else none
section
variable {X : Cx} {S : SI} {W : WX} {e : Expr} {es : List Expr} {mr : AM} {ma : EM} {ml mh : OM} {pos p p2 : Pos} {lo hi : Option Expr}
theorem pe_AsM {r : List V → Hp → VK → Prop} {g : List D → Mem → Option (D × Mem)} (h : ∀ t, PA X es t → PE X e (tCB r t)) (hr : ∀ x H Q, rDsM X.K X.mg S.T g x H Q → r x H Q) (ha : PA X es (TAm X S W mr)) : PE X e (TEm X S W <| eAsM g mr) :=
  PEi (h _ ha) fun σ H Q ⟨w, δ, μ, h⟩ => ⟨w, δ, μ, (At.bind h).mono fun x H1 ⟨w1, μ1, d, le, rd, h1⟩ => by
    obtain ⟨z, μ2, e, q⟩ := h1.optM
    exact hr _ _ _ ⟨w1, μ1, d, z, μ2, h1.2.1, rd, e, q⟩⟩
theorem pe_newL (h : PA X es (TAm X S W mr)) : PE X (.List es pos) (TEm X S W <| eAsM gNewL mr) :=
  pe_AsM (r := fun xs H1 Q => xs.length ≤ sizeLine ∧ ∀ p, H1 p = none → Q (.ref p) (upd H1 p (.lst xs))) (fun t h => pe_lst h) (fun xs H Q ⟨w, μ, ds, d, μ', r, rs, e, q⟩ => by
    unfold gNewL at e
    split at e
    · next hl =>
      cases e
      exact ⟨by rw [← rs.length]; exact hl, put_new r (.lst rs) q⟩
    · cases e) h
end
/-- a list, a dict in slot i: it never changes again -/
def sFrz (i : Nat) : SM := fun δ μ => match δ[i]? with
  | some (some (.loc l)) => match μ[l]? with
    | some (.lst xs) => .nx (δ.set i (some (.lst xs))) (μ.set l .gone)
    | _ => .stuck
  | _ => .nx δ μ
def Wd.frz (w : Wd) (p : Addr) (o : HO) : Wd := { w with φ := upd w.φ p o }
section
variable {K : PySem.W.Frag} {mg : Str → Option Value} {T : List (Addr × Str)} {w : Wd} {μ : Mem} {H : Hp}
theorem RelM.freeze (r : RelM K mg T w μ H) {l : Nat} {b : Ob} {o : HO} (hl : μ[l]? = some b) (ng : b ≠ .gone) (ho : H (w.ρ l) = some o) (nk : ∀ kvs, b ≠ .lkd kvs := by nofun) : w.Le (w.frz (w.ρ l) o) ∧ RelM K mg T (w.frz (w.ρ l) o) (μ.set l .gone) H := by
  obtain ⟨hb, hn⟩ := r.ob l b hl
  obtain ⟨n1, n2, n3⟩ := hn ng
  have hlt : l < μ.length := (List.getElem?_eq_some_iff.mp hl).1
  have hc : chg o = true := by rw [ho] at hb; exact hb.chg ng
  have ne : ∀ {a u}, w.φ a = some u → a ≠ w.ρ l := fun {a u} h e => by rw [e, n1] at h; cases h
  have le : w.Le (w.frz (w.ρ l) o) := ⟨Nat.le_refl _, fun _ _ => rfl, fun a u h => by show upd w.φ _ o a = _; rw [upd_ne (ne h)]; exact h, rfl, rfl, rfl⟩
  refine ⟨le, ⟨by simp [Wd.frz, r.n], fun a u h => ?_, r.fr, r.gr, fun a u h => ?_, fun a u h => ?_, fun l' b' hb' => ?_, fun l' hl' => ?_, r.inj, r.tabs, ⟨fun a u z => ⟨(r.lo.at_ a u z).1, (r.lo.at_ a u z).2.1, ?_, (r.lo.at_ a u z).2.2.2⟩, fun l' c hl' hg hk => ?_, fun l' kvs hl' => ?_⟩, fun a ps => ?_⟩⟩
  · have h' : upd w.φ (w.ρ l) o a = some u := h
    by_cases e : a = w.ρ l
    · subst e; rw [upd_same] at h'; cases h'; exact ho
    · rw [upd_ne e] at h'; exact r.φ a u h'
  · have h' : w.fr a = some u := h
    show upd w.φ _ o a = none
    rw [upd_ne (fun e => by rw [e, n2] at h'; cases h')]; exact r.dj a u h
  · have h' : w.gr a = some u := h
    refine ⟨?_, (r.dg a u h).2⟩
    show upd w.φ _ o a = none
    rw [upd_ne (fun e => by rw [e, n3] at h'; cases h')]; exact (r.dg a u h).1
  · by_cases e : l = l'
    · subst e
      rw [List.getElem?_set_self hlt] at hb'
      cases hb'
      exact ⟨by show RelOb K mg _ .gone (H (w.ρ l)); rw [ho]; exact .gone, fun h => absurd rfl h⟩
    · rw [List.getElem?_set_ne e] at hb'
      obtain ⟨k1, k2⟩ := r.ob l' b' hb'
      refine ⟨k1.mono le, fun ng' => ?_⟩
      obtain ⟨m1, m2, m3⟩ := k2 ng'
      refine ⟨?_, m2, m3⟩
      have hlt' : l' < μ.length := (List.getElem?_eq_some_iff.mp hb').1
      show upd w.φ _ o (w.ρ l') = none
      rw [upd_ne (fun z => e (r.inj l l' (by rw [r.n]; exact hlt) (by rw [r.n]; exact hlt') z.symm))]
      exact m1
  · show ∃ u, upd w.φ (w.ρ l) o (w.ρ l') = some u
    by_cases z : w.ρ l' = w.ρ l
    · rw [z, upd_same]; exact ⟨o, rfl⟩
    · rw [upd_ne z]
      by_cases e : l = l'
      · subst e; exact absurd rfl z
      · rw [List.getElem?_set_ne e] at hl'
        exact r.gn l' hl'
  · show upd w.φ (w.ρ l) o a = none
    rw [upd_ne (fun e => by have z2 : w.lk a = some u := z; rw [e, r.lo.ln l b hl ng nk] at z2; cases z2)]; exact (r.lo.at_ a u z).2.2.1
  · by_cases e : l = l'
    · subst e; rw [List.getElem?_set_self hlt] at hl'; cases hl'; exact absurd rfl hg
    · rw [List.getElem?_set_ne e] at hl'
      exact r.lo.ln l' c hl' hg hk
  · by_cases e : l = l'
    · subst e; rw [List.getElem?_set_self hlt] at hl'; cases hl'
    · rw [List.getElem?_set_ne e] at hl'
      exact r.lo.lo l' kvs hl'
  · refine ⟨?_, (r.nt a ps).2⟩
    show upd w.φ _ o a ≠ _
    by_cases e : a = w.ρ l
    · subst e; rw [upd_same]; intro z; cases z; cases hc
    · rw [upd_ne e]; exact (r.nt a ps).1
end
section
variable {X : Cx} {S : SI} {W : WX} {sts : List Stmt} {m : SM}
theorem tS_frz {D : Ends} {σ : L2.St} {H : Hp} {i : Nat} (h : TSm X S W (sSeq (sFrz i) m) D σ H) : TSm X S W m D σ H := by
  obtain ⟨w, δ, μ, rs, rm, h⟩ := h
  unfold sSeq sFrz at h
  split at h
  · next l hl =>
    split at h
    · next xs hx =>
      obtain ⟨vs, h1, h2⟩ := rm.lst hx
      obtain ⟨le, rm'⟩ := rm.freeze hx nofun h1
      obtain ⟨v, hv, rv⟩ := rs.2 i _ hl
      refine ⟨_, _, _, ?_, rm', STo.mono le h⟩
      have hv' : v = .ref (w.ρ l) := by cases rv; rfl
      have rd : RelD X.K X.mg (w.frz (w.ρ l) (.lst vs)) (.lst xs) v := by rw [hv']; exact .lst upd_same (RelDs.mono le h2)
      have := (rs.mono le).set i rd
      rwa [show σ.set i (some v) = σ from by
        refine List.ext_getElem? fun j => ?_
        by_cases e : i = j
        · subst e; rw [List.getElem?_set_self (by have := (List.getElem?_eq_some_iff.mp hv).1; exact this), hv]
        · rw [List.getElem?_set_ne e]] at this
    · exact h.elim
  · exact ⟨w, δ, μ, rs, rm, h⟩
theorem pss_frz (i : Nat) (h : PSs X sts (TSm X S W m)) : PSs X sts (TSm X S W <| sSeq (sFrz i) m) := PSsi h fun D σ H q => tS_frz q
end
def gSet : D → D → D → Mem → Option Mem
  | .loc l, .int i, v, μ => match μ[l]? with
    | some (.lst xs) => match ixN xs.length i with
      | some j => some (μ.set l (.lst (xs.set j v)))
      | none => none
    | _ => none
  | _, _, _, _ => none
def gSubM (mo mi : EM) : GM := fun v δ μ => (mo δ μ).bindS δ fun o μ1 => (mi δ μ1).bindS δ fun i μ2 => match gSet o i v μ2 with
  | some μ3 => .nx δ μ3
  | none => .stuck
section
variable {X : Cx} {S : SI} {W : WX} {o i tg : Expr} {mo mi : EM}
theorem pg_sub' (h : ∀ to ti, PE X o to → PE X i ti → PG X tg (L2.gSub to ti rSetL)) (ho : PE X o (TEm X S W mo)) (hi : PE X i (TEm X S W mi)) : PG X tg (TGm X S W <| gSubM mo mi) :=
  PGi (h _ _ ho hi) fun v σ H Q ⟨D, w, δ, μ, d, rs, rm, rd, q, hq⟩ => ⟨w, δ, μ, (At.bindS rs rm q).mono fun x H1 ⟨w1, μ1, x', le1, rx, rs1, rm1, q1⟩ => ⟨w1, δ, μ1, (At.bindS rs1 rm1 q1).mono fun y H2 ⟨w2, μ2, y', le2, ry, rs2, rm2, q2⟩ => by
    split at q2
    · next μ3 e =>
      unfold gSet at e
      split at e
      · next l k v' =>
        cases rx with
        | loc hln =>
        cases ry
        split at e
        · next xs hx =>
          split at e
          · next j hj =>
            cases e
            obtain ⟨vs, h1, h2⟩ := rm2.lst hx
            have hρ := le2.ρ l hln
            refine ⟨w2.ρ l, vs, k, j, by rw [hρ], rfl, h1, by rw [← h2.length]; exact hj, ?_⟩
            exact hq _ _ (q2 w2 σ _ (Wd.Le.refl _) (rm2.write hx nofun (.lst (h2.set j ((rd.mono le1).mono le2)))) rs2)
          · cases e
        · cases e
      · cases e
    · exact q2.elim⟩⟩
end
end Kw
set_option Elab.async false
set_option linter.all false
set_option maxRecDepth 100000
namespace Kw
open PySem PySem.Spec PyProof.Rows L2
mutual
/-- no place from k on (sc: nothing lent either) -/
def locB (sc : Bool) (k : Nat) : D → Bool
  | .tup xs => locBs sc k xs
  | .lst xs => locBs sc k xs
  | .scr xs => !sc && locBs sc k xs
  | .loc l => decide (l < k)
  | .non => true
  | .bl _ => true
  | .int _ => true
  | .str _ => true
  | .glb _ => true
  | .ty _ => true
  | .ins _ _ xs => locBs sc k xs
  | .fn _ _ => !sc
  | .brd kvs => !sc && locBk sc k kvs
  | .dct kvs => locBk sc k kvs
  | _ => false
def locBs (sc : Bool) (k : Nat) : List D → Bool
  | [] => true
  | d :: ds => locB sc k d && locBs sc k ds
def locBk (sc : Bool) (k : Nat) : List (D × D) → Bool
  | [] => true
  | (_, d) :: ps => locB sc k d && locBk sc k ps
end
def obB (k : Nat) : Ob → Bool
  | .lst xs => locBs false k xs
  | .dct kvs => locBs false k (kvs.map (·.2))
  | .ins _ fs => locBs false k (fs.map (·.2))
  | .lkd kvs => locBs false k (kvs.map (·.2))
  | .gone => true
mutual
def frzW (f : Nat → Option D) : D → Option D
  | .tup xs => match frzWs f xs with
    | some ys => some (.tup ys)
    | none => none
  | .lst xs => match frzWs f xs with
    | some ys => some (.lst ys)
    | none => none
  | .scr xs => match frzWs f xs with
    | some ys => some (.scr ys)
    | none => none
  | .loc l => f l
  | .non => some .non
  | .bl b => some (.bl b)
  | .int i => some (.int i)
  | .str x => some (.str x)
  | .glb x => some (.glb x)
  | .ins c ns xs => match frzWs f xs with
    | some ys => some (.ins c ns ys)
    | none => none
  | .ty n => some (.ty n)
  | .fn i L => some (.fn i L)
  | .brd kvs => match frzWk f kvs with
    | some ys => some (.brd ys)
    | none => none
  | .dct kvs => match frzWk f kvs with
    | some ys => some (.dct ys)
    | none => none
  | _ => none
def frzWs (f : Nat → Option D) : List D → Option (List D)
  | [] => some []
  | d :: ds => match frzW f d, frzWs f ds with
    | some p, some ps => some (p :: ps)
    | _, _ => none
def frzWk (f : Nat → Option D) : List (D × D) → Option (List (D × D))
  | [] => some []
  | (k, d) :: ds => match frzW f d, frzWk f ds with
    | some p, some ps => some ((k, p) :: ps)
    | _, _ => none
end
def frzL (μ : Mem) : Nat → Nat → Option D
  | 0, _ => none
  | n + 1, l => match μ[l]? with
    | some (.lst xs) => match frzWs (frzL μ n) xs with
      | some ys => some (.scr ys)
      | none => none
    | some (.dct kvs) => match frzWk (frzL μ n) kvs with
      | some ys => some (.brd ys)
      | none => none
    | _ => none
abbrev FM := List D → Mem → Out D
/-- a call that sees the places -/
def callM (m : FM) (ds : List D) (μ : Mem) : Out D := match m ds μ with
  | .ok d μ' => if (locB false μ.length d && (μ'.take μ.length).all (obB μ.length)) = true then .ok d (μ'.take μ.length) else .ok d μ'
  | .exc x μ' => if (locBs false μ.length (x.fs.map (·.2)) && (μ'.take μ.length).all (obB μ.length)) = true then .exc x (μ'.take μ.length) else .exc x μ'
  | .stuck => .stuck
/-- a call that changes no place: it begins with none; places among the arguments are lent -/
def callP (m : FM) (ds : List D) (μ : Mem) : Out D := if locBs false 0 ds = true then match m ds [] with
    | .ok d _ => if locB false 0 d = true then .ok d μ else .stuck
    | .exc x _ => if locBs false 0 (x.fs.map (·.2)) = true then .exc x μ else .stuck
    | .stuck => .stuck
  else match frzWs (frzL μ 4) ds with
    | some es => match m es [] with
      | .ok d _ => if locB true 0 d = true then .ok d μ else .stuck
      | .exc x _ => if locBs true 0 (x.fs.map (·.2)) = true then .exc x μ else .stuck
      | .stuck => .stuck
    | none => .stuck
section
variable {K : PySem.W.Frag} {mg : Str → Option Value} {T : List (Addr × Str)} {w w' : Wd} {μ : Mem} {H : Hp}
/-- from a world into one with the same laid things, the places below k, what was lent (unless sc) -/
structure Into (sc : Bool) (k : Nat) (w w' : Wd) : Prop where
  φ : ∀ a o, w.φ a = some o → w'.φ a = some o
  fr : sc = false → w'.fr = w.fr
  ρ : ∀ l, l < k → l < w.n → l < w'.n ∧ w'.ρ l = w.ρ l
theorem zip_fs : ∀ kvs : List (D × D), (kvs.map (·.1)).zip (kvs.map (·.2)) = kvs
  | [] => rfl
  | p :: kvs => by rw [List.map_cons, List.map_cons, List.zip_cons_cons, zip_fs kvs]
theorem zip_inv {ks ds : List D} {gs : List (Key × V)} (hk : ks = gs.map (fun p => match p.1 with | .inl i => D.int i | .inr x => D.str x)) (h : RelDs K mg w ds (gs.map (·.2))) : (ks.zip ds).map (·.1) = gs.map (fun p => keyD p.1) ∧ (ks.zip ds).map (·.2) = ds := by
  subst hk
  have hl := h.length
  simp only [List.length_map] at hl
  refine ⟨?_, ?_⟩
  · rw [List.map_fst_zip (by simp; omega)]
    refine List.map_congr_left fun p _ => ?_
    cases p.1 <;> rfl
  · rw [List.map_snd_zip (by simp; omega)]
theorem key_fun {gs : List (Key × V)} : gs.map (fun p => keyD p.1) = gs.map (fun p => match p.1 with | .inl i => D.int i | .inr x => D.str x) := List.map_congr_left fun p _ => by cases p.1 <;> rfl
theorem brd_inv {kvs : List (D × D)} {v : V} (h : RelD K mg w (.brd kvs) v) : ∃ a gs, v = .ref a ∧ Rd w.fr a (.dK gs) ∧ kvs.map (·.1) = gs.map (fun p => keyD p.1) ∧ RelDs K mg w (kvs.map (·.2)) (gs.map (·.2)) := by
  generalize hd : D.brd kvs = d at h
  cases h with
  | @brd a gs ks ds h1 h2 h3 =>
    cases hd
    obtain ⟨q1, q2⟩ := zip_inv h2 h3
    exact ⟨a, gs, rfl, h1, q1, by rw [q2]; exact h3⟩
  | _ => cases hd
theorem dct_inv {kvs : List (D × D)} {v : V} (h : RelD K mg w (.dct kvs) v) : ∃ a gs, v = .ref a ∧ Rd w.φ a (.dK gs) ∧ kvs.map (·.1) = gs.map (fun p => keyD p.1) ∧ RelDs K mg w (kvs.map (·.2)) (gs.map (·.2)) := by
  generalize hd : D.dct kvs = d at h
  cases h with
  | @dctK a gs ks ds h1 h2 h3 =>
    cases hd
    obtain ⟨q1, q2⟩ := zip_inv h2 h3
    exact ⟨a, gs, rfl, h1, q1, by rw [q2]; exact h3⟩
  | _ => cases hd
theorem brd_of {kvs : List (D × D)} {a : Addr} {gs : List (Key × V)} (h1 : Rd w.fr a (.dK gs)) (h2 : kvs.map (·.1) = gs.map (fun p => keyD p.1)) (h3 : RelDs K mg w (kvs.map (·.2)) (gs.map (·.2))) : RelD K mg w (.brd kvs) (.ref a) := by
  rw [← zip_fs kvs]
  exact .brd h1 (h2.trans key_fun) h3
theorem dct_of {kvs : List (D × D)} {a : Addr} {gs : List (Key × V)} (h1 : Rd w.φ a (.dK gs)) (h2 : kvs.map (·.1) = gs.map (fun p => keyD p.1)) (h3 : RelDs K mg w (kvs.map (·.2)) (gs.map (·.2))) : RelD K mg w (.dct kvs) (.ref a) := by
  rw [← zip_fs kvs]
  exact .dctK h1 (h2.trans key_fun) h3
mutual
theorem RelD.into {sc : Bool} {k : Nat} (t : Into sc k w w') : ∀ (d : D) (v : V), RelD K mg w d v → locB sc k d = true → RelD K mg w' d v
  | .non, _, h, _ => by cases h; exact .non
  | .bl b, _, h, _ => by cases h; exact .bl b
  | .int b, _, h, _ => by cases h; exact .int b
  | .str b, _, h, _ => by cases h; exact .str b
  | .ty b, _, h, _ => by cases h; exact .ty b
  | .glb b, _, h, _ => by cases h with | glb e => exact .glb e
  | .ins c ns xs, _, h, hb => by
    cases h with
    | ins g e en rs => exact .ins g (t.φ _ _ e) en (RelDs.into t xs _ rs (by simpa only [locB] using hb))
  | .fn i L, _, h, hb => by
    cases h with
    | fn e k =>
      simp only [locB, Bool.not_eq_true'] at hb
      exact .fn (t.φ _ _ e) (k.imp (t.φ _ _) fun k => by rw [t.fr hb]; exact k)
  | .tup xs, _, h, hb => by
    cases h with
    | tup e rs => exact .tup (sqT_mono t.φ e) (RelDs.into t xs _ rs (by simpa only [locB] using hb))
  | .lst xs, _, h, hb => by
    cases h with
    | lst e rs => exact .lst (t.φ _ _ e) (RelDs.into t xs _ rs (by simpa only [locB] using hb))
  | .scr xs, _, h, hb => by
    cases h with
    | scr e rs =>
      simp only [locB, Bool.and_eq_true, Bool.not_eq_true'] at hb
      refine .scr (e.imp (sqL_mono t.φ) fun e => by rw [t.fr hb.1]; exact e) (RelDs.into t xs _ rs hb.2)
  | .loc l, _, h, hb => by
    cases h with
    | loc hl =>
      obtain ⟨h1, h2⟩ := t.ρ l (by simpa only [locB, decide_eq_true_eq] using hb) hl
      rw [← h2]
      exact .loc h1
  | .dct kvs, v, h, hb => by
    obtain ⟨a, gs, rfl, h1, h2, h3⟩ := dct_inv h
    exact dct_of (rd_mono t.φ h1) h2 (RelKs.into t kvs _ h3 (by simpa only [locB] using hb))
  | .brd kvs, v, h, hb => by
    obtain ⟨a, gs, rfl, h1, h2, h3⟩ := brd_inv h
    simp only [locB, Bool.and_eq_true, Bool.not_eq_true'] at hb
    exact brd_of (by rw [t.fr hb.1]; exact h1) h2 (RelKs.into t kvs _ h3 hb.2)
  | .lam, _, _, hb => by cases hb
  | .exc _ _, _, _, hb => by cases hb
theorem RelKs.into {sc : Bool} {k : Nat} (t : Into sc k w w') : ∀ (ds : List (D × D)) (vs : List V), RelDs K mg w (ds.map (·.2)) vs → locBk sc k ds = true → RelDs K mg w' (ds.map (·.2)) vs
  | [], _, h, _ => by cases h; exact .nil
  | (_, d) :: ds, _, h, hb => by
    cases h with
    | cons r rs =>
      simp only [locBk, Bool.and_eq_true] at hb
      exact .cons (RelD.into t d _ r hb.1) (RelKs.into t ds _ rs hb.2)
theorem RelDs.into {sc : Bool} {k : Nat} (t : Into sc k w w') : ∀ (ds : List D) (vs : List V), RelDs K mg w ds vs → locBs sc k ds = true → RelDs K mg w' ds vs
  | [], _, h, _ => by cases h; exact .nil
  | d :: ds, _, h, hb => by
    cases h with
    | cons r rs =>
      simp only [locBs, Bool.and_eq_true] at hb
      exact .cons (RelD.into t d _ r hb.1) (RelDs.into t ds _ rs hb.2)
end
theorem RelOb.into {k : Nat} (t : Into false k w w') {b : Ob} {o : Option HO} (h : RelOb K mg w b o) (hb : obB k b = true) : RelOb K mg w' b o := by
  cases h with
  | lst r => exact .lst (RelDs.into t _ _ r hb)
  | dct e r => exact .dct e (RelDs.into t _ _ r hb)
  | ins e r => exact .ins e ⟨r.1, RelDs.into t _ _ r.2 hb⟩
  | lkd e r => exact .lkd e (RelDs.into t _ _ r hb)
  | gone => exact .gone
theorem RelX.into {sc : Bool} {k : Nat} (t : Into sc k w w') {x : Xn} {c : Value} {d : Option Addr} (h : RelX K mg w x c d) (hb : locBs sc k (x.fs.map (·.2)) = true) : RelX K mg w' x c d := by
  obtain ⟨C, dd, gs, a, b, c, d, e⟩ := h
  exact ⟨C, dd, gs, a, b, c, t.φ _ _ d, e.1, RelDs.into t _ _ e.2 hb⟩
/-- the places from k on forgotten -/
def Wd.trunc (w : Wd) (k : Nat) : Wd := { w with n := k }
theorem RelM.trunc {k : Nat} (r : RelM K mg T w μ H) (hk : k ≤ μ.length) (hb : (μ.take k).all (obB k) = true) : RelM K mg T (w.trunc k) (μ.take k) H := by
  have t : Into false k w (w.trunc k) := ⟨fun _ _ h => h, fun _ => rfl, fun l h _ => ⟨h, rfl⟩⟩
  refine ⟨by simp [Wd.trunc]; omega, r.φ, r.fr, r.gr, r.dj, r.dg, fun l b hl => ?_, fun l hl => ?_, fun l l' h h' e => ?_, r.tabs, ⟨r.lo.at_, fun l c hl hg hk => ?_, fun l kvs hl => ?_⟩, r.nt⟩
  · have hb' : b ∈ μ.take k := List.mem_of_getElem? hl
    have hlk : l < k := by have := (List.getElem?_eq_some_iff.mp hl).1; simp at this; omega
    rw [List.getElem?_take_of_lt hlk] at hl
    obtain ⟨h1, h2⟩ := r.ob l b hl
    exact ⟨h1.into t (List.all_eq_true.mp hb b hb'), h2⟩
  · have hlk : l < k := by have := (List.getElem?_eq_some_iff.mp hl).1; simp at this; omega
    rw [List.getElem?_take_of_lt hlk] at hl
    exact r.gn l hl
  · have h1 : l < k := h
    have h2 : l' < k := h'
    exact r.inj l l' (by rw [r.n]; omega) (by rw [r.n]; omega) e
  · have hlk : l < k := by have := (List.getElem?_eq_some_iff.mp hl).1; simp at this; omega
    rw [List.getElem?_take_of_lt hlk] at hl
    exact r.lo.ln l c hl hg hk
  · have hlk : l < k := by have := (List.getElem?_eq_some_iff.mp hl).1; simp at this; omega
    rw [List.getElem?_take_of_lt hlk] at hl
    exact r.lo.lo l kvs hl
/-- the caller's places, as a call that changes none sees them: lent or apart -/
noncomputable def cells (w : Wd) (H : Hp) : Hp := fun a => open Classical in if w.φ a = none ∧ w.fr a = none ∧ w.gr a = none ∧ w.lk a = none ∧ ∃ l, l < w.n ∧ w.ρ l = a then H a else none
noncomputable def join (f g : Hp) : Hp := fun a => match f a with
  | some o => some o
  | none => g a
theorem cells_some {a : Addr} {o : HO} (h : cells w H a = some o) : w.φ a = none ∧ w.fr a = none ∧ w.gr a = none ∧ H a = some o := by
  unfold cells at h
  split at h
  · next hc => exact ⟨hc.1, hc.2.1, hc.2.2.1, h⟩
  · cases h
theorem cells_nt (r : RelM K mg T w μ H) (a : Addr) (ps : Array Value) : cells w H a ≠ some (.tbl ps) := fun h => by
  unfold cells at h
  split at h
  · next hc =>
    obtain ⟨h1, h2, h3, _, l, hl, rfl⟩ := hc
    have hl' : l < μ.length := r.n ▸ hl
    obtain ⟨q1, q2⟩ := r.ob l μ[l] (List.getElem?_eq_getElem hl')
    rw [h] at q1
    by_cases ng : μ[l] = .gone
    · obtain ⟨u, hu⟩ := r.gn l (by rw [List.getElem?_eq_getElem hl', ng])
      rw [h1] at hu; cases hu
    · generalize μ[l] = b at q1 ng
      cases q1
      exact ng rfl
  · cases h
theorem cells_ne (r : RelM K mg T w μ H) (a : Addr) (f : Heap → Prop) : cells w H a ≠ some (.ext f) := fun h => by
  unfold cells at h
  split at h
  · next hc =>
    obtain ⟨h1, h2, h3, _, l, hl, rfl⟩ := hc
    have hl' : l < μ.length := r.n ▸ hl
    obtain ⟨q1, q2⟩ := r.ob l μ[l] (List.getElem?_eq_getElem hl')
    rw [h] at q1
    by_cases ng : μ[l] = .gone
    · obtain ⟨u, hu⟩ := r.gn l (by rw [List.getElem?_eq_getElem hl', ng])
      rw [h1] at hu; cases hu
    · generalize μ[l] = b at q1 ng
      cases q1
      exact ng rfl
  · cases h
theorem join_ne {f g : Hp} (hf : ∀ a k, f a ≠ some (.ext k)) (hg : ∀ a k, g a ≠ some (.ext k)) (a : Addr) (k : Heap → Prop) : join f g a ≠ some (.ext k) := fun h => by
  unfold join at h
  split at h
  · next u hu => cases h; exact hf _ _ hu
  · exact hg _ _ h
theorem join_nt {f g : Hp} (hf : ∀ a ps, f a ≠ some (.tbl ps)) (hg : ∀ a ps, g a ≠ some (.tbl ps)) (a : Addr) (ps : Array Value) : join f g a ≠ some (.tbl ps) := fun h => by
  unfold join at h
  split at h
  · next u hu => cases h; exact hf _ _ hu
  · exact hg _ _ h
theorem cells_at (r : RelM K mg T w μ H) {l : Nat} {b : Ob} (hl : μ[l]? = some b) (ng : b ≠ .gone) (nk : ∀ kvs, b ≠ .lkd kvs := by nofun) : cells w H (w.ρ l) = H (w.ρ l) := by
  have hlt : l < w.n := by rw [r.n]; exact (List.getElem?_eq_some_iff.mp hl).1
  obtain ⟨h1, h2, h3⟩ := (r.ob l b hl).2 ng
  unfold cells
  rw [if_pos ⟨h1, h2, h3, r.lo.ln l b hl ng nk, l, hlt, rfl⟩]
noncomputable def Wd.lend (w : Wd) (H : Hp) : Wd := { n := 0, ρ := w.ρ, φ := w.φ, fr := join w.fr (cells w H), gr := w.gr, lk := w.lk }
noncomputable def Wd.apart (w : Wd) (H : Hp) : Wd := { n := 0, ρ := w.ρ, φ := w.φ, fr := w.fr, gr := join w.gr (cells w H), lk := w.lk }
theorem join_some {f g : Hp} {a : Addr} {o : HO} (h : join f g a = some o) : f a = some o ∨ (f a = none ∧ g a = some o) := by
  unfold join at h
  split at h
  · next u hu => cases h; exact .inl hu
  · next hu => exact .inr ⟨hu, h⟩
theorem RelM.lend (r : RelM K mg T w μ H) : RelM K mg T (w.lend H) [] H := by
  refine ⟨rfl, r.φ, fun a o h => ?_, r.gr, fun a o h => ?_, fun a o h => ⟨(r.dg a o h).1, ?_⟩, fun l b h => by simp at h, fun l h => by simp at h, fun l l' h => absurd h (Nat.not_lt_zero _), r.tabs, ⟨r.lo.at_, fun l b h => by simp at h, fun l kvs h => by simp at h⟩, fun a ps => ⟨(r.nt a ps).1, join_nt (fun a ps => (r.nt a ps).2.1) (cells_nt r) a ps, (r.nt a ps).2.2⟩⟩
  · rcases join_some h with h | ⟨_, h⟩
    · exact r.fr a o h
    · exact (cells_some h).2.2.2
  · rcases join_some h with h | ⟨_, h⟩
    · exact r.dj a o h
    · exact (cells_some h).1
  · have h' : w.gr a = some o := h
    show join w.fr (cells w H) a = none
    unfold join
    rw [(r.dg a o h).2]
    simp only
    unfold cells
    rw [if_neg fun hc => by rw [hc.2.2.1] at h'; cases h']
theorem RelM.apart (r : RelM K mg T w μ H) : RelM K mg T (w.apart H) [] H := by
  refine ⟨rfl, r.φ, r.fr, fun a o h => ?_, r.dj, fun a o h => ?_, fun l b h => by simp at h, fun l h => by simp at h, fun l l' h => absurd h (Nat.not_lt_zero _), r.tabs, ⟨fun a o z => ⟨(r.lo.at_ a o z).1, ?_, (r.lo.at_ a o z).2.2⟩, fun l b h => by simp at h, fun l kvs h => by simp at h⟩, fun a ps => ⟨(r.nt a ps).1, (r.nt a ps).2.1, join_nt (fun a ps => (r.nt a ps).2.2.1) (cells_nt r) a ps, join_ne (fun a k => (r.nt a #[]).2.2.2 k) (cells_ne r) a⟩⟩
  · rcases join_some h with h | ⟨_, h⟩
    · exact r.gr a o h
    · exact (cells_some h).2.2.2
  · rcases join_some h with h | ⟨_, h⟩
    · exact r.dg a o h
    · exact ⟨(cells_some h).1, (cells_some h).2.1⟩
  · show join w.gr (cells w H) a = none
    unfold join
    rw [(r.lo.at_ a o z).2.1]
    simp only
    unfold cells
    rw [if_neg fun hc => by have z2 : w.lk a = some o := z; rw [hc.2.2.2.1] at z2; cases z2]
/-- back in the caller -/
def Wd.back (w w1 : Wd) : Wd := { w with φ := w1.φ }
theorem RelM.back {w1 : Wd} {μ1 : Mem} {H1 : Hp} (r : RelM K mg T w μ H) (r1 : RelM K mg T w1 μ1 H1) (hφ : ∀ a o, w.φ a = some o → w1.φ a = some o) (hf : ∀ a o, w.fr a = some o → H1 a = some o ∧ w1.φ a = none) (hg : ∀ a o, w.gr a = some o → H1 a = some o ∧ w1.φ a = none)
    (hc : ∀ a o, cells w H a = some o → H1 a = some o ∧ w1.φ a = none) (hk : ∀ a o, w.lk a = some o → H1 a = some o ∧ w1.φ a = none) : w.Le (w.back w1) ∧ RelM K mg T (w.back w1) μ H1 := by
  have le : w.Le (w.back w1) := ⟨Nat.le_refl _, fun _ _ => rfl, hφ, rfl, rfl, rfl⟩
  refine ⟨le, r.n, r1.φ, fun a o h => (hf a o h).1, fun a o h => (hg a o h).1, fun a o h => (hf a o h).2, fun a o h => ⟨(hg a o h).2, (r.dg a o h).2⟩, fun l b hl => ?_, fun l hl => (r.gn l hl).imp fun u h => hφ _ _ h, r.inj, r1.tabs, ⟨fun a o z => ⟨(hk a o z).1, (r.lo.at_ a o z).2.1, (hk a o z).2, (r.lo.at_ a o z).2.2.2⟩, r.lo.ln, fun l kvs hl => ?_⟩, fun a ps => ⟨(r1.nt a ps).1, (r.nt a ps).2⟩⟩
  · obtain ⟨h1, h2⟩ := r.ob l b hl
    by_cases ng : b = .gone
    · subst ng
      obtain ⟨u, hu⟩ := r.gn l hl
      have := r1.φ _ _ (hφ _ _ hu)
      exact ⟨by show RelOb K mg _ .gone (H1 (w.ρ l)); rw [this]; exact .gone, fun z => absurd rfl z⟩
    · obtain ⟨k1, k2, k3⟩ := h2 ng
      cases e : H (w.ρ l) with
      | none => rw [e] at h1; cases h1
      | some o =>
        have hcell : H1 (w.ρ l) = some o ∧ w1.φ (w.ρ l) = none := by
          by_cases nk : ∀ kvs, b ≠ .lkd kvs
          · have hcell := cells_at r hl ng nk
            rw [e] at hcell
            exact hc _ _ hcell
          · have : ∃ kvs, b = .lkd kvs := Classical.byContradiction fun z => nk fun kvs e => z ⟨kvs, e⟩
            obtain ⟨kvs, rfl⟩ := this
            exact hk _ _ (by rw [← r.lo.lo l kvs hl]; exact e)
        obtain ⟨m1, m2⟩ := hcell
        refine ⟨?_, fun _ => ⟨m2, k2, k3⟩⟩
        show RelOb K mg _ b (H1 (w.ρ l))
        rw [m1, ← e]
        exact h1.mono le
  · show H1 (w.ρ l) = w.lk (w.ρ l)
    obtain ⟨h1, h2⟩ := r.ob l _ hl
    have h3 := r.lo.lo l kvs hl
    cases e : H (w.ρ l) with
    | none => rw [e] at h1; cases h1
    | some o =>
      rw [e] at h3
      rw [(hk _ _ h3.symm).1, h3]
theorem join_l {f g : Hp} {a : Addr} {o : HO} (h : f a = some o) : join f g a = some o := by unfold join; rw [h]
theorem join_r {f g : Hp} {a : Addr} {o : HO} (h : f a = none) (h' : g a = some o) : join f g a = some o := by unfold join; rw [h]; exact h'
theorem RelM.back_lend {w1 : Wd} {μ1 : Mem} {H1 : Hp} (r : RelM K mg T w μ H) (le : (w.lend H).Le w1) (r1 : RelM K mg T w1 μ1 H1) : w.Le (w.back w1) ∧ RelM K mg T (w.back w1) μ H1 := by
  have fr1 : ∀ a o, join w.fr (cells w H) a = some o → H1 a = some o ∧ w1.φ a = none := fun a o h => by
    have h' : w1.fr a = some o := by rw [le.fr]; exact h
    exact ⟨r1.fr a o h', r1.dj a o h'⟩
  refine r.back r1 le.φ (fun a o h => fr1 a o (join_l h)) (fun a o h => ?_) (fun a o h => fr1 a o (join_r (cells_some h).2.1 h)) fun a o h => ⟨(r1.lo.at_ a o (by rw [le.lk]; exact h)).1, (r1.lo.at_ a o (by rw [le.lk]; exact h)).2.2.1⟩
  have h' : w1.gr a = some o := by rw [le.gr]; exact h
  exact ⟨r1.gr a o h', (r1.dg a o h').1⟩
theorem RelM.back_apart {w1 : Wd} {μ1 : Mem} {H1 : Hp} (r : RelM K mg T w μ H) (le : (w.apart H).Le w1) (r1 : RelM K mg T w1 μ1 H1) : w.Le (w.back w1) ∧ RelM K mg T (w.back w1) μ H1 := by
  have gr1 : ∀ a o, join w.gr (cells w H) a = some o → H1 a = some o ∧ w1.φ a = none := fun a o h => by
    have h' : w1.gr a = some o := by rw [le.gr]; exact h
    exact ⟨r1.gr a o h', (r1.dg a o h').1⟩
  refine r.back r1 le.φ (fun a o h => ?_) (fun a o h => gr1 a o (join_l h)) (fun a o h => gr1 a o (join_r (cells_some h).2.2.1 h)) fun a o h => ⟨(r1.lo.at_ a o (by rw [le.lk]; exact h)).1, (r1.lo.at_ a o (by rw [le.lk]; exact h)).2.2.1⟩
  have h' : w1.fr a = some o := by rw [le.fr]; exact h
  exact ⟨r1.fr a o h', r1.dj a o h'⟩
mutual
theorem frzW_rel (r : RelM K mg T w μ H) {f : Nat → Option D} (hf : ∀ l d, l < w.n → f l = some d → RelD K mg (w.lend H) d (.ref (w.ρ l))) : ∀ (d : D) (v : V) (e : D), RelD K mg w d v → frzW f d = some e → RelD K mg (w.lend H) e v
  | .non, _, _, rd, h => by cases rd; cases h; exact .non
  | .bl b, _, _, rd, h => by cases rd; cases h; exact .bl b
  | .int i, _, _, rd, h => by cases rd; cases h; exact .int i
  | .str i, _, _, rd, h => by cases rd; cases h; exact .str i
  | .ty i, _, _, rd, h => by cases rd; cases h; exact .ty i
  | .glb i, _, _, rd, h => by cases rd with | glb e => cases h; exact .glb e
  | .ins c ns xs, _, _, rd, h => by
    cases rd with
    | ins g e en rs =>
      simp only [frzW] at h
      split at h
      · next ps hp => cases h; exact .ins g e en (frzWs_rel r hf xs _ _ rs hp)
      · cases h
  | .fn i L, _, _, rd, h => by
    cases rd with
    | fn e k => cases h; exact .fn e (k.imp id fun k => join_l k)
  | .tup xs, _, _, rd, h => by
    cases rd with
    | tup e rs =>
      simp only [frzW] at h
      split at h
      · next ps hp => cases h; exact .tup e (frzWs_rel r hf xs _ _ rs hp)
      · cases h
  | .lst xs, _, _, rd, h => by
    cases rd with
    | lst e rs =>
      simp only [frzW] at h
      split at h
      · next ps hp => cases h; exact .lst e (frzWs_rel r hf xs _ _ rs hp)
      · cases h
  | .scr xs, _, _, rd, h => by
    cases rd with
    | scr e rs =>
      simp only [frzW] at h
      split at h
      · next ps hp => cases h; exact .scr (e.imp id fun e => join_l e) (frzWs_rel r hf xs _ _ rs hp)
      · cases h
  | .loc l, _, _, rd, h => by
    cases rd with
    | loc hl => exact hf l _ hl h
  | .dct kvs, v, _, rd, h => by
    obtain ⟨a, gs, rfl, h1, h2, h3⟩ := dct_inv rd
    simp only [frzW] at h
    split at h
    · next ps hp =>
      cases h
      obtain ⟨q1, q2⟩ := frzWk_rel r hf kvs _ _ h3 hp
      exact dct_of h1 (q1.trans h2) q2
    · cases h
  | .brd kvs, v, _, rd, h => by
    obtain ⟨a, gs, rfl, h1, h2, h3⟩ := brd_inv rd
    simp only [frzW] at h
    split at h
    · next ps hp =>
      cases h
      obtain ⟨q1, q2⟩ := frzWk_rel r hf kvs _ _ h3 hp
      exact brd_of (rd_mono (fun _ _ e => join_l e) h1) (q1.trans h2) q2
    · cases h
  | .lam, _, _, _, h => by cases h
  | .exc _ _, _, _, _, h => by cases h
theorem frzWk_rel (r : RelM K mg T w μ H) {f : Nat → Option D} (hf : ∀ l d, l < w.n → f l = some d → RelD K mg (w.lend H) d (.ref (w.ρ l))) : ∀ (ds : List (D × D)) (vs : List V) (es : List (D × D)), RelDs K mg w (ds.map (·.2)) vs → frzWk f ds = some es → es.map (·.1) = ds.map (·.1) ∧ RelDs K mg (w.lend H) (es.map (·.2)) vs
  | [], _, _, rd, h => by cases rd; cases h; exact ⟨rfl, .nil⟩
  | (k, d) :: ds, _, _, rd, h => by
    cases rd with
    | cons r1 r2 =>
      simp only [frzWk] at h
      split at h
      · next p ps hp hps =>
        cases h
        obtain ⟨q1, q2⟩ := frzWk_rel r hf ds _ _ r2 hps
        exact ⟨by simp only [List.map_cons, q1], .cons (frzW_rel r hf d _ _ r1 hp) q2⟩
      · cases h
theorem frzWs_rel (r : RelM K mg T w μ H) {f : Nat → Option D} (hf : ∀ l d, l < w.n → f l = some d → RelD K mg (w.lend H) d (.ref (w.ρ l))) : ∀ (ds : List D) (vs : List V) (es : List D), RelDs K mg w ds vs → frzWs f ds = some es → RelDs K mg (w.lend H) es vs
  | [], _, _, rd, h => by cases rd; cases h; exact .nil
  | d :: ds, _, _, rd, h => by
    cases rd with
    | cons r1 r2 =>
      simp only [frzWs] at h
      split at h
      · next p ps hp hps => cases h; exact .cons (frzW_rel r hf d _ _ r1 hp) (frzWs_rel r hf ds _ _ r2 hps)
      · cases h
end
theorem frzL_rel (r : RelM K mg T w μ H) : ∀ (n l : Nat) (d : D), l < w.n → frzL μ n l = some d → RelD K mg (w.lend H) d (.ref (w.ρ l))
  | 0, l, p, _, h => by cases h
  | n + 1, l, p, _, h => by
    simp only [frzL] at h
    split at h
    · next xs q =>
      obtain ⟨vs, h1, h2⟩ := r.lst q
      split at h
      · next ps hp =>
        cases h
        have hc : cells w H (w.ρ l) = some (.lst vs) := by rw [cells_at r q nofun]; exact h1
        exact .scr (.inr (join_r (cells_some hc).2.1 hc)) (frzWs_rel r (frzL_rel r n) _ _ _ h2 hp)
      · cases h
    · next kvs q =>
      have h1 := (r.ob l _ q).1
      generalize ho : H (w.ρ l) = o at h1
      cases h1 with
      | @dct _ gs k1 k2 =>
        split at h
        · next ps hp =>
          cases h
          have hc : cells w H (w.ρ l) = some (.dK gs) := by rw [cells_at r q nofun]; exact ho
          obtain ⟨q1, q2⟩ := frzWk_rel r (frzL_rel r n) _ _ _ k2 hp
          exact brd_of (.inl (join_r (cells_some hc).2.1 hc)) (q1.trans k1) q2
        · cases h
    · cases h
end
section
variable (K : PySem.W.Frag) (mg : Str → Option Value) (T : List (Addr × Str))
/-- a call's end, by data -/
def FTo (w : Wd) (Q : VK) (E : XK) (o : Out D) : Prop := o.to (fun d μ' => ∀ w' v H', w.Le w' → RelM K mg T w' μ' H' → RelD K mg w' d v → Q v H') (fun x μ' => ∀ w' cls dd H', w.Le w' → RelM K mg T w' μ' H' → RelX K mg w' x cls dd → E cls dd H')
/-- n arguments; it does what m says -/
def spM (n : Nat) (m : FM) : Sp := fun vs H Q E => vs.length = n ∧ ∃ w μ ds, RelM K mg T w μ H ∧ RelDs K mg w ds vs ∧ FTo K mg T w Q E (m ds μ)
end
section
variable {K : PySem.W.Frag} {mg : Str → Option Value} {T : List (Addr × Str)} {w : Wd} {μ : Mem} {H : Hp} {Q : VK} {E : XK} {m : FM} {ds : List D} {vs : List V} {n : Nat}
theorem sp_callM (hl : vs.length = n) (r : RelM K mg T w μ H) (rs : RelDs K mg w ds vs) (h : FTo K mg T w Q E (callM m ds μ)) : spM K mg T n m vs H Q E := by
  refine ⟨hl, w, μ, ds, r, rs, ?_⟩
  unfold callM at h
  have into : ∀ {w' : Wd}, w.Le w' → Into false μ.length w' (w'.trunc μ.length) := fun le => ⟨fun _ _ h => h, fun _ => rfl, fun l h _ => ⟨h, rfl⟩⟩
  have lt : ∀ {w' : Wd}, w.Le w' → w.Le (w'.trunc μ.length) := fun le => ⟨by rw [r.n]; exact Nat.le_refl _, le.ρ, le.φ, le.fr, le.gr, le.lk⟩
  cases e : m ds μ with
  | stuck => rw [e] at h; exact h
  | ok d μ' =>
    rw [e] at h
    simp only at h
    split at h
    · next hc =>
      rw [Bool.and_eq_true] at hc
      intro w' v H' le rm rd
      exact h (w'.trunc μ.length) v H' (lt le) (rm.trunc (by rw [← rm.n, ← r.n]; exact le.n) hc.2) (RelD.into (into le) _ _ rd hc.1)
    · exact h
  | exc x μ' =>
    rw [e] at h
    simp only at h
    split at h
    · next hc =>
      rw [Bool.and_eq_true] at hc
      intro w' c dd H' le rm rx
      exact h (w'.trunc μ.length) c dd H' (lt le) (rm.trunc (by rw [← rm.n, ← r.n]; exact le.n) hc.2) (rx.into (into le) hc.1)
    · exact h
theorem sp_callP (hl : vs.length = n) (r : RelM K mg T w μ H) (rs : RelDs K mg w ds vs) (h : FTo K mg T w Q E (callP m ds μ)) : spM K mg T n m vs H Q E := by
  unfold callP at h
  have hρ : ∀ {w1 : Wd} {sc : Bool}, (∀ a o, w1.φ a = some o → (w.back w1).φ a = some o) := fun a o h => h
  split at h
  · next hb =>
    have rs' : RelDs K mg (w.apart H) ds vs := RelDs.into (w := w) (w' := w.apart H) (sc := false) (k := 0) ⟨fun _ _ h => h, fun _ => rfl, fun l h => absurd h (Nat.not_lt_zero _)⟩ _ _ rs hb
    refine ⟨hl, w.apart H, [], ds, r.apart, rs', ?_⟩
    have into : ∀ {w1 : Wd}, (w.apart H).Le w1 → Into false 0 w1 (w.back w1) := fun le => ⟨fun _ _ h => h, fun _ => le.fr.symm, fun l h => absurd h (Nat.not_lt_zero _)⟩
    cases e : m ds [] with
    | stuck => rw [e] at h; exact h
    | ok d μ' =>
      rw [e] at h
      simp only at h
      split at h
      · next hc =>
        intro w1 v H1 le rm rd
        obtain ⟨le2, rm2⟩ := r.back_apart le rm
        exact h (w.back w1) v H1 le2 rm2 (RelD.into (into le) _ _ rd hc)
      · exact h.elim
    | exc x μ' =>
      rw [e] at h
      simp only at h
      split at h
      · next hc =>
        intro w1 c dd H1 le rm rx
        obtain ⟨le2, rm2⟩ := r.back_apart le rm
        exact h (w.back w1) c dd H1 le2 rm2 (rx.into (into le) hc)
      · exact h.elim
  · split at h
    · next es he =>
      refine ⟨hl, w.lend H, [], es, r.lend, frzWs_rel r (frzL_rel r 4) _ _ _ rs he, ?_⟩
      have into : ∀ {w1 : Wd}, Into true 0 w1 (w.back w1) := ⟨fun _ _ h => h, (fun h => nomatch h), fun l h => absurd h (Nat.not_lt_zero _)⟩
      cases e : m es [] with
      | stuck => rw [e] at h; exact h
      | ok d μ' =>
        rw [e] at h
        simp only at h
        split at h
        · next hc =>
          intro w1 v H1 le rm rd
          obtain ⟨le2, rm2⟩ := r.back_lend le rm
          exact h (w.back w1) v H1 le2 rm2 (RelD.into into _ _ rd hc)
        · exact h.elim
      | exc x μ' =>
        rw [e] at h
        simp only at h
        split at h
        · next hc =>
          intro w1 c dd H1 le rm rx
          obtain ⟨le2, rm2⟩ := r.back_lend le rm
          exact h (w.back w1) c dd H1 le2 rm2 (rx.into into hc)
        · exact h.elim
    · exact h.elim
end
end Kw
set_option Elab.async false
set_option linter.all false
set_option maxRecDepth 100000
namespace Kw
open PySem PySem.Spec PyProof.Rows L2
structure FnG (P : Program) (w : World) (K : PySem.W.Frag) (mg : Str → Option Value) (base : Heap) (k : Nat) (f : Addr) (fd : FuncData) (ps : List Str) (sp : Sp) : Prop where
  len : ∀ vs H Q E, sp vs H Q E → vs.length = ps.length
  run : ∀ (A : Around) (outer : List Env) (s : Shared) (H : Hp) (args : Args) (us : List Value) (vs : List V) (Q : VK) (E : XK), Room k A → A.guards = some [] → Env0 P w K mg base A outer s H → BindsTo s fd args (ps.zip us) → Vals vs us → sp vs H Q E →
    codeAny (model P w) A (.call (.ref f) args) (CR (L2.CX P w) outer P w H s Q E) s
theorem FnG.mono {P : Program} {w : World} {K : PySem.W.Frag} {mg : Str → Option Value} {base : Heap} {j k : Nat} {f : Addr} {fd : FuncData} {ps : List Str} {sp : Sp} (F : FnG P w K mg base j f fd ps sp) (h : j ≤ k) : FnG P w K mg base k f fd ps sp :=
  ⟨F.len, fun A outer s H args us vs Q E hr => F.run A outer s H args us vs Q E (hr.mono h)⟩
section
variable {X : Cx} {k : Nat} {f : Addr} {fd : FuncData} {ps ks : List Str} {sp : Sp} {W : WX} {x : Str} {p pos : Pos} {e : Expr} {es : List Expr} {kws : List Keyword} {t tk : TA}
theorem run_G {pins : List (Addr × Obj)} {σ : L2.St} {H : Hp} {s : Shared} {Q : VK} {us : List Value} {vs : List V} {args : Args} (F : FnG X.prog X.w X.K X.mg X.base k f fd ps sp) (hr : Room k X.A) (hgd : X.A.guards = some []) (hx : PassesAt (L2.CX X.prog X.w) X σ (WE W σ))
    (I : Inv X pins σ H s) (hb : BindsTo s fd args (ps.zip us)) (r : Vals vs us) (h : sp vs H Q (WE W σ)) : codeAny (model X.prog X.w) X.A (.call (.ref f) args) (fun r s' => match r with
      | .ok (.ret u) => EP X pins σ Q u s'
      | .ok _ => False
      | .error e => X.xe e s') s := by
  refine codeAny_mono (F.run X.A X.stack s H args us vs Q _ hr hgd I.env0 hb r h) fun r s' hq => ?_
  cases r with
  | error e => exact hx pins H s e s' I hq
  | ok fl =>
    cases fl with
    | ret u => exact I.after hq
    | next => exact False.elim hq
    | brk => exact False.elim hq
    | cont => exact False.elim hq
theorem call_of {M : Model} {A : Around} {f : Value} {us : List Value} {kw : List (Str × Value)} {Q E : Value → Shared → Prop} {s : Shared} (h : codeAny M A (.call f ⟨us, kw⟩) (fun r s' => match r with
      | .ok (.ret u) => Q u s'
      | .ok _ => False
      | .error e => E e s') s) : wpAny M A (call f us kw) Q E s :=
  wpAny_call (codeAny_mono h fun r s' hq => by
    cases r with
    | error e => exact hq
    | ok fl => cases fl <;> first | exact hq | exact False.elim hq)
theorem pe_G (F : FnG X.prog X.w X.K X.mg X.base k f fd ps sp) (hr : Room k X.A) (hgd : X.A.guards = some []) (hg : Gl X x) (hm : X.mg x = some (.ref f)) (hk : PySem.W.keepIn X.K (.ref f) = true) (hb : Binds X.K fd ps []) (hx : ∀ σ, PassesAt (L2.CX X.prog X.w) X σ (WE W σ))
    (ha : PA X (e :: es) t) (hdb : (x == ("__debug__" : Str)) = false := by decide) (he : starEach (e :: es) X.env = (false, eval e X.env) :: starEach es X.env := by rfl) (hpl : (backTo pos (starEach es X.env)).any (·.1) = false := by rfl) :
    PE X (.Call (.Name x p) (e :: es) [] pos) (fun σ H Q => t σ H fun vs H1 => sp vs H1 Q (WE W σ)) := by
  refine ⟨fun pins s σ H Q I h => ?_⟩
  refine wpAny_Call_Name_kw (ld_glob I hg hm ?_ hdb)
  refine PySem.W.callWith_K (h₀ := X.base) I.ok.mod.kin hk (thn (ha.run pos pins s σ H _ I h) fun us s1 ⟨vs, H1, I1, r, q⟩ => ⟨I1.kIn, ?_⟩) he hpl
  have hl : (us ++ []).length = ps.length := by rw [List.append_nil, ← r.length]; exact F.len _ _ _ _ q
  have hb' := hb s1 us I1.kIn hl
  rw [List.append_nil] at hb'
  exact call_of (run_G F hr hgd (hx σ) I1 hb' r q)
end
def eCallM (m : FM) (ma : AM) : EM := fun δ μ => (ma δ μ).bind fun ds μ1 => callM m ds μ1
def eCallP (m : FM) (ma : AM) : EM := fun δ μ => (ma δ μ).bind fun ds μ1 => callP m ds μ1
section
variable {X : Cx} {S : SI} {W : WX} {k n : Nat} {f : Addr} {fd : FuncData} {ps ks : List Str} {x : Str} {p pos kpos : Pos} {e : Expr} {es : List Expr} {kws : List Keyword} {mr mk : AM} {m : FM} {nm : Option Str} {ma : EM}
theorem pe_callM {e' : Expr} (h : ∀ t, PA X es t → PE X e' (fun σ H Q => t σ H fun vs H1 => spM X.K X.mg S.T n m vs H1 Q (WE W σ))) (hl : es.length = n) (ha : PA X es (TAm X S W mr)) (hn : ∀ δ μ ds μ', mr δ μ = .ok ds μ' → ds.length = n) : PE X e' (TEm X S W <| eCallM m mr) :=
  PEi (h _ ha) fun σ H Q ⟨w, δ, μ, h⟩ => ⟨w, δ, μ, by
    refine ⟨h.1, h.2.1, ?_⟩
    have h3 := h.2.2
    unfold eCallM at h3
    cases e : mr δ μ with
    | stuck => rw [e] at h3; exact h3.elim
    | exc x μ' => rw [e] at h3; exact h3
    | ok ds μ' =>
      rw [e] at h3
      intro w' vs H' le rm rs
      refine sp_callM (by rw [← rs.length]; exact hn _ _ _ _ e) rm rs ?_
      exact Out.to_mono h3 (fun d μ2 q w2 v2 H2 le2 => q w2 v2 H2 (le.trans le2)) fun x μ2 q w2 c d H2 le2 => q w2 c d H2 (le.trans le2)⟩
theorem pe_callP {e' : Expr} (h : ∀ t, PA X es t → PE X e' (fun σ H Q => t σ H fun vs H1 => spM X.K X.mg S.T n m vs H1 Q (WE W σ))) (hl : es.length = n) (ha : PA X es (TAm X S W mr)) (hn : ∀ δ μ ds μ', mr δ μ = .ok ds μ' → ds.length = n) : PE X e' (TEm X S W <| eCallP m mr) :=
  PEi (h _ ha) fun σ H Q ⟨w, δ, μ, h⟩ => ⟨w, δ, μ, by
    refine ⟨h.1, h.2.1, ?_⟩
    have h3 := h.2.2
    unfold eCallP at h3
    cases e : mr δ μ with
    | stuck => rw [e] at h3; exact h3.elim
    | exc x μ' => rw [e] at h3; exact h3
    | ok ds μ' =>
      rw [e] at h3
      intro w' vs H' le rm rs
      refine sp_callP (by rw [← rs.length]; exact hn _ _ _ _ e) rm rs ?_
      exact Out.to_mono h3 (fun d μ2 q w2 v2 H2 le2 => q w2 v2 H2 (le.trans le2)) fun x μ2 q w2 c d H2 le2 => q w2 c d H2 (le.trans le2)⟩
theorem aNil_len : ∀ δ μ ds μ', aNil δ μ = .ok ds μ' → ds.length = 0 := fun δ μ ds μ' h => by cases h; rfl
theorem aCons_len {n : Nat} (h : ∀ δ μ ds μ', mr δ μ = .ok ds μ' → ds.length = n) : ∀ δ μ ds μ', aCons ma mr δ μ = .ok ds μ' → ds.length = n + 1 := fun δ μ ds μ' e => by
  unfold aCons at e
  cases e1 : ma δ μ with
  | ok x μ1 =>
    rw [e1] at e
    cases e2 : mr δ μ1 with
    | ok xs μ2 =>
      have e' : (mr δ μ1).bind (fun xs μ2 => Out.ok (x :: xs) μ2) = .ok ds μ' := e
      rw [e2] at e'
      cases e'
      rw [List.length_cons, h _ _ _ _ e2]
    | _ =>
      have e' : (mr δ μ1).bind (fun xs μ2 => Out.ok (x :: xs) μ2) = .ok ds μ' := e
      rw [e2] at e'
      cases e'
  | _ => rw [e1] at e; cases e
theorem pk_nil' : PK X [] (TAm X S W aNil) := PKi pk_nil fun σ H Q ⟨w, δ, μ, h⟩ => h.2.2 w [] H (Wd.Le.refl _) h.2.1 .nil
theorem pk_cons' (ha : PE X e (TEm X S W ma)) (hr : PK X kws (TAm X S W mr)) : PK X (⟨nm, e, kpos⟩ :: kws) (TAm X S W <| aCons ma mr) :=
  PKi (pk_cons ha hr) fun σ H Q ⟨w, δ, μ, h⟩ => ⟨w, δ, μ, (At.bind h).mono fun x H1 ⟨w1, μ1, d, le, rd, h1⟩ => ⟨w1, δ, μ1, (At.bind h1).mono fun y H2 ⟨w2, μ2, f, le2, re, h2⟩ =>
    h2.2.2 w2 (x :: y) H2 (Wd.Le.refl _) h2.2.1 (.cons (rd.mono le2) re)⟩⟩
end
def bodyM (N : Nat) (m : SM) : FM := fun ds μ => match m (ds.map some ++ List.replicate (N - ds.length) none) μ with
  | .ret d μ' => .ok d μ'
  | .nx _ μ' => .ok .non μ'
  | .exc x _ μ' => .exc x μ'
  | _ => .stuck
theorem RelSv.start {K : PySem.W.Frag} {mg : Str → Option Value} {S : SI} {w : Wd} {ds : List D} {vs : List V} (N : List Str) (h : RelDs K mg w ds vs) : RelSv K mg S w (ds.map some ++ List.replicate (N.length - ds.length) none) (start N vs) := by
  refine ⟨by unfold L2.start; simp [h.length], fun i d hd => ?_⟩
  by_cases hi : i < ds.length
  · rw [List.getElem?_append_left (by simpa using hi), List.getElem?_map] at hd
    cases e : ds[i]? with
    | none => rw [e] at hd; cases hd
    | some d' =>
      rw [e] at hd
      cases hd
      obtain ⟨v, hv, rv⟩ := h.get e
      refine ⟨v, ?_, .of rv⟩
      unfold L2.start
      rw [List.getElem?_append_left (by rw [List.length_map, ← h.length]; exact hi), List.getElem?_map, hv]
      rfl
  · rw [List.getElem?_append_right (by simpa using hi), List.getElem?_replicate] at hd
    split at hd <;> cases hd
section
variable {P : Program} {w : World} {K : PySem.W.Frag} {mg : Str → Option Value} {base : Heap} {x qual : Str} {params : Arguments} {body : List Stmt} {scope : Scope} {dvs : List V} {kws : List (Str × V)} {f : Addr} {fd : FuncData}
theorem fnG_of {T : List (Addr × Str)} {N ps : List Str} {k n : Nat} {m : SM} (F : FunD K x qual params body scope dvs kws f fd) (S : FnScope N ps scope) (hn : ps.length = n)
    (hbody : ∀ (cdv : Value) (A : Around) (outer : List Env) (s : Shared) (H : Hp) (E : XK), Room k (A.deeper (envOfC qual scope s.heap.objs.size f cdv)) → (A.deeper (envOfC qual scope s.heap.objs.size f cdv)).guards = some [] → Takes (cxOf (L2.CX P w) P w K mg base N qual scope f cdv A outer s H E) (fun c d _ H => E c d H) →
      PSs (cxOf (L2.CX P w) P w K mg base N qual scope f cdv A outer s H E) body (tS K mg { T := T } (fun c d _ H => E c d H) m)) : FnG P w K mg base (k + 1) f fd ps (spM K mg T n (bodyM N.length m)) := by
  obtain ⟨oc, od, dV, kV, doc, pm, an, cdv, ct, osl, rfl, lk, hcd, _, _⟩ := F.ex
  have len : ∀ vs H Q E, spM K mg T n (bodyM N.length m) vs H Q E → vs.length = ps.length := fun vs H Q E h => h.1.trans hn.symm
  refine ⟨len, fun A outer s H args us vs Q E hr hgd e0 hb r hsp => ?_⟩
  have hl := len _ _ _ _ hsp
  have KX : K.In s.heap := e0.mod.kin.keeps fun b o e => (e0.bs b o e).1
  have lim : s.heap.NoLimit := e0.mod.nolimit.keeps fun b o e => (e0.bs b o e).1
  have hkind : ∀ y ∈ ps.zip us, scope.names.lookup y.1 = some .local ∨ (scope.names.lookup y.1 = some .cell ∧ ((cellsFrom (s.heap.objs.size + 1) scope.names []).lookup y.1).isSome = true) := fun ⟨n, v⟩ hy => by
    rcases S.par n (List.of_mem_zip hy).1 with q | q
    · exact .inl q
    · exact .inr ⟨q, PySem.W.cellsFrom_some _ _ _ (.inl q)⟩
  refine codeAny_call_function hr.depth (KX _ _ lk) rfl S.co S.gen rfl (PySem.W.codeRec_of KX hcd) (hb _ _ _ _ ?_)
  refine wpAny_newFunctionEnv_cells S.kind hkind fun env he s1 x => ?_
  subst he
  refine ⟨lim.keeps x.toInCall.keep, codeAny_func ?_⟩
  have ht := hbody cdv A outer s H E (hr.deeper _) hgd (takes_of rfl rfl rfl rfl)
  have I : Inv (cxOf (L2.CX P w) P w K mg base N qual scope f cdv A outer s H E) [] (start N vs) H s1 := inv_start S hr.hd e0 hl r x
  obtain ⟨_, wd, μ, ds, rm, rs, hm⟩ := hsp
  have hq : tS K mg { T := T } (fun c d _ H => E c d H) m { nx := fun _ H' => Q .non H', rt := Q } (start N vs) H := by
    refine ⟨wd, _, μ, RelSv.start N rs, rm, ?_⟩
    unfold bodyM at hm
    generalize m (ds.map some ++ List.replicate (N.length - ds.length) none) μ = o at hm ⊢
    cases o with
    | ret d μ' => exact hm
    | nx δ μ' => exact fun w' σ H' le rm' _ => hm w' .non H' le rm' .non
    | exc x δ μ' => exact fun w' c d σ H' le rm' _ rx => hm w' c d H' le rm' rx
    | bk δ μ' => exact hm.elim
    | ct δ μ' => exact hm.elim
    | stuck => exact hm.elim
  refine wpAny_mono (ht.run [] s1 (start N vs) H _ I hq) (fun fl s' hs => ?_) fun e s' hs => hs
  have fin : ∀ {σ' : L2.St} {H' : Hp} {v : V} {u : Value}, Inv (cxOf (L2.CX P w) P w K mg base N qual scope f cdv A outer s H E) [] σ' H' s' → RelV v u → Q v H' → CE outer P w H s Q u s' :=
    fun {σ' H' v u} J rv q => ⟨v, H', J.os, J.bare, J.base, J.hok, rv, q⟩
  cases fl with
  | ret u =>
    obtain ⟨v, σ', H', J, rv, q⟩ := hs
    exact fin J rv q
  | next =>
    obtain ⟨σ', H', J, q⟩ := hs
    exact fin (v := V.non) (u := Value.none) J rfl q
  | brk =>
    obtain ⟨_, _, _, q⟩ := hs
    exact False.elim q
  | cont =>
    obtain ⟨_, _, _, q⟩ := hs
    exact False.elim q
end
end Kw
set_option Elab.async false
set_option linter.all false
set_option maxRecDepth 100000
namespace Kw
open PySem PySem.Spec PyProof.Rows L2 LamX
/-- the script as it was laid -/
abbrev scrO (vs : List Value) : Obj := { cls := .type "list", data := .seq vs.toArray }
abbrev tabO : Obj := { cls := .none, data := .fields #[] }
open Classical in
noncomputable def H0 (K : PySem.W.Frag) (ts : List Addr) (a : Addr) (vs : List Value) (xs : List V) : Hp := fun b =>
  if b ∈ ts then some (.tbl #[]) else if b = a ∧ K.lookup a = none then some (.frz (scrO vs) (.lst xs)) else none
section
variable {P : Program} {w : World} {K : PySem.W.Frag} {mg mb : Str → Option Value} {k : Nat} {fa a : Addr} {cs : List (Addr × Addr)} {fd : FuncData} {x : Str} {sp : Sp} {s₁ : Shared} {vs : List Value} {ns : List Int}
theorem H0_tab {ts : List Addr} {xs : List V} {b : Addr} (h : b ∈ ts) : H0 K ts a vs xs b = some (.tbl #[]) := if_pos h
theorem H0_some {ts : List Addr} {xs : List V} {b : Addr} {u : HO} (h : H0 K ts a vs xs b = some u) : (b ∈ ts ∧ u = .tbl #[]) ∨ (b ∉ ts ∧ b = a ∧ K.lookup a = none ∧ u = .frz (scrO vs) (.lst xs)) := by
  unfold H0 at h
  split at h
  · next hb => cases h; exact .inl ⟨hb, rfl⟩
  · next hb =>
    split at h
    · next hc => cases h; exact .inr ⟨hb, hc.1, hc.2, rfl⟩
    · cases h
theorem law_callG (KX : K.In s₁.heap) (hns : s₁.heap.Ns mainGlobals mg) (hb : s₁.heap.Ns builtinsNs mb) (hbb : ∀ x : Str, x ≠ "__name__" → mb x = bootBuiltins x) (hlim : s₁.heap.NoLimit) (hg : s₁.gens = #[])
    (hT : ∀ p ∈ cs, s₁.heap.get? p.2 = some tabO) (nT : ∀ p ∈ cs, K.lookup p.2 = none) (C : ∀ p ∈ cs, PySem.W.CodeHd s₁.heap p.1 p.2)
    (hbm : ∃ (bm : Addr) (ob : Obj), mg "__builtins__" = some (.ref bm) ∧ bm ≠ builtinsNs ∧ s₁.heap.get? bm = some ob ∧ ob.cls = .type "module" ∧ ob.dict = some builtinsNs ∧ ob.data = .plain)
    (ha : s₁.heap.get? a = some (scrO vs)) (hi : IntsAre vs ns) (hl : ns.length ≤ sizeLine) (hr : Room k callerA)
    (F : ∀ base : Heap, K.In base → base.Ns mainGlobals mg → (∀ p ∈ cs, TabB base mg p.1 p.2) → FnG P w K mg base k fa fd [x] sp) (hbind : ∀ (s : Shared) (u : Value), BindsTo s fd ⟨[u], []⟩ [(x, u)])
    (hsp : ∀ H : Hp, (∀ p ∈ cs, H p.2 = some (.tbl #[])) → SqL K H a (ns.map V.int) → sp [.ref a] H (fun v _ => v = .bl true) fun _ _ _ => False) :
    codeAny (model P w) callerA (.call (.ref fa) ⟨[.ref a], []⟩) (fun r s' => r = .ok (.ret (.bool true)) ∧ OldK s₁.heap s'.heap ∧ s'.os = s₁.os ∧ AllBare s'.gens) s₁ := by
  obtain ⟨H, eH⟩ : ∃ H : Hp, H = H0 K (cs.map (·.2)) a vs (ns.map V.int) := ⟨_, rfl⟩
  have rv := vals_ints hi
  have isT : ∀ b : Addr, b ∈ cs.map (·.2) → s₁.heap.get? b = some tabO := fun b h => by
    obtain ⟨p, hp, e⟩ := List.mem_map.mp h
    rw [← e]; exact hT p hp
  have hH : ∀ p ∈ cs, H p.2 = some (.tbl #[]) := fun p hp => by rw [eH]; exact H0_tab (List.mem_map.mpr ⟨p, hp, rfl⟩)
  have aT : a ∉ cs.map (·.2) := fun z => by
    have q := isT a z
    rw [ha] at q
    have z' : Data.seq vs.toArray _ = Data.fields #[] := congrArg Obj.data (Option.some.inj q)
    cases z'
  -- what is tracked, and what stands there
  have on : ∀ b u, H b = some u → (b ∈ cs.map (·.2) ∧ u = .tbl #[] ∧ s₁.heap.get? b = some tabO) ∨ (b = a ∧ K.lookup a = none ∧ u = .frz (scrO vs) (.lst (ns.map V.int)) ∧ s₁.heap.get? b = some (scrO vs)) := fun b u h => by
    rw [eH] at h
    rcases H0_some h with ⟨h1, h2⟩ | ⟨_, h1, h2, h3⟩
    · exact .inl ⟨h1, h2, isT b h1⟩
    · exact .inr ⟨h1, h2, h3, by rw [h1]; exact ha⟩
  have hS : SqL K H a (ns.map V.int) := by
    cases hk : K.lookup a with
    | some o =>
      have e := KX a o hk
      rw [ha] at e
      cases e
      exact .inr ⟨_, vs.toArray, _, hk, rfl, rfl, rfl, by rw [List.size_toArray, hi.length]; exact hl, by simpa using rv⟩
    | none =>
      refine .inl (.inr ⟨scrO vs, ?_⟩)
      rw [eH]
      unfold H0
      rw [if_neg aT, if_pos ⟨rfl, hk⟩]
  have hok : HOk P w H s₁.heap := fun b u h => by
    rcases on b u h with ⟨_, rfl, e⟩ | ⟨rfl, _, rfl, e⟩
    · exact e
    · exact ⟨ha, by rw [List.length_map]; exact hl, vs, _, rv, ha⟩
  have off : ∀ {b : Addr} {o : Obj}, s₁.heap.get? b = some o → o.data ≠ .fields #[] → (∀ ws n, o.data ≠ .seq ws n) → H b = none := fun {b o} e h1 h2 => by
    cases q : H b with
    | none => rfl
    | some u =>
      rcases on b u q with ⟨_, _, e'⟩ | ⟨_, _, _, e'⟩
      · rw [e] at e'; cases e'; exact absurd rfl h1
      · rw [e] at e'; cases e'; exact absurd rfl (h2 _ _)
  have nsK : ∀ {b : Addr} {m : Str → Option Value}, s₁.heap.Ns b m → (hidT s₁.heap H).Ns b m := fun {b m} ⟨o, es, ep, e, d, r⟩ => ⟨o, es, ep, hidT_get e (off e (by rw [d]; nofun) (by rw [d]; nofun)), d, r⟩
  have hKb : K.In (hidT s₁.heap H) := fun b o e => hidT_get (KX b o e) (by
    cases q : H b with
    | none => rfl
    | some u =>
      rcases on b u q with ⟨h1, _, _⟩ | ⟨h1, h2, _, _⟩
      · obtain ⟨p, hp, ep⟩ := List.mem_map.mp h1
        rw [← ep, nT p hp] at e; cases e
      · rw [h1, h2] at e; cases e)
  have hM : L2.Mod K mg (hidT s₁.heap H) := ⟨hKb, nsK hns, ⟨mb, nsK hb, hbb⟩, let ⟨mc, h1, h2⟩ := hlim; ⟨mc, nsK h1, h2⟩⟩
  have TB : ∀ p ∈ cs, TabB (hidT s₁.heap H) mg p.1 p.2 := fun p hp => by
    have hTp := hT p hp
    refine ⟨?_, ?_, fun z => ?_⟩
    · obtain ⟨o, us, file, tf, flags, tg, inF, text, tt, e1, r1, r2, r3, r4, r5, r6, r7, r8, hne⟩ := C p hp
      refine ⟨o, us, file, tf, flags, tg, inF, text, tt, hidT_get e1 (off e1 (fun z => ?_) (by rw [r2]; nofun)), r1, r2, r3, r4, r5, r6, r7, r8, hne⟩
      rw [r2] at z
      cases z
      simp at r3
    · obtain ⟨bm, ob, b1, b2, b3, b4, b5, b6⟩ := hbm
      have nG : bm ≠ mainGlobals := fun q => by
        obtain ⟨o, es, ep, e, hd, _⟩ := hns
        rw [q, e] at b3
        cases b3
        rw [hd] at b6
        cases b6
      have nP : bm ≠ p.2 := fun q => by
        rw [q, hTp] at b3
        cases b3
        cases b6
      exact ⟨bm, ob, b1, b2, nG, nP, hidT_get b3 (off b3 (by rw [b6]; nofun) (by rw [b6]; nofun)), b4, b5, b6⟩
    · obtain ⟨o, es, ep, e, hd, _⟩ := hns
      rw [z, hTp] at e
      cases e
      cases hd
  have e0 : Env0 P w K mg (hidT s₁.heap H) callerA [] s₁ H := ⟨rfl, hM, fun b o e => of_hidT e, Nat.le_of_eq (hidT_size _ _), trivial, fun b hb => absurd (show b ∈ ([] : List Addr) from hb) (by simp), hok, .of_eq hg⟩
  refine codeAny_mono ((F _ hKb (nsK hns) TB).run callerA [] s₁ H ⟨[.ref a], []⟩ [.ref a] [.ref a] _ _ hr rfl e0 (hbind s₁ (.ref a)) (.cons rfl .nil) (hsp H hH hS)) fun r s' h => ?_
  cases r with
  | error e =>
    obtain ⟨_, _, _, _, _, _, _, _, _, _, _, _, z⟩ := h
    exact z.elim
  | ok fl =>
    cases fl with
    | next => exact False.elim h
    | brk => exact False.elim h
    | cont => exact False.elim h
    | ret u =>
      obtain ⟨v, H', os, bare, un, hok', r', q⟩ := h
      have q' : v = .bl true := q
      subst q'
      obtain rfl : u = Value.bool true := r'
      refine ⟨rfl, ⟨fun b o e => ?_, fun b o e => ?_⟩, os, bare⟩
      · cases q : H b with
        | none => exact .inl (un.keep b o e q (fun z => absurd (show b ∈ ([] : List Addr) from z) (by simp)) (by simp))
        | some u =>
          rcases on b u q with ⟨h1, rfl, e'⟩ | ⟨_, _, rfl, e'⟩
          · obtain ⟨p, hp, ep⟩ := List.mem_map.mp h1
            rw [e] at e'
            cases e'
            obtain ⟨more, z⟩ := un.tbls b #[] q
            have z' := hok' b _ z
            rw [← ep] at z' ⊢
            exact .inr (.inl ⟨((C p hp).tab (hT p hp)).isCodeTable, rfl, #[], more, rfl, by rw [Array.empty_append]; rw [Array.empty_append] at z'; exact z'⟩)
          · have z := un.frzs b _ _ q
            obtain ⟨e2, _⟩ := hok' b _ z
            rw [e] at e'
            cases e'
            exact .inl e2
      · cases q : H b with
        | none => exact ⟨o, un.keep b o e q (fun z => absurd (show b ∈ ([] : List Addr) from z) (by simp)) (by simp)⟩
        | some u =>
          rcases on b u q with ⟨h1, rfl, e'⟩ | ⟨_, _, rfl, e'⟩
          · obtain ⟨more, z⟩ := un.tbls b #[] q
            exact ⟨_, hok' b _ z⟩
          · have z := un.frzs b _ _ q
            exact ⟨_, (hok' b _ z).1⟩
end
theorem walk_G {l : PySem.W.OpenLaw} {n k : Nat} {q : Program} {loose : List Str} {XP : (Str → Option Value) → Heap → Prop} {YP : World → Heap → Prop} {d : DefRec} {x : Str} {m : FM}
    (hn : l.most = some n) (hn2 : n ≤ sizeLine) (hdf : d.params.defaults = []) (hr : Room k callerA)
    (pl : ∀ ns : List Int, ns.length ≤ n → (∀ z ∈ ns, Builtin.Int.intBits z ≤ 1048576) → ∃ μ, m [.scr (ns.map D.int)] [] = .ok (.bl true) μ)
    (F : ∀ (w : World) (mg : Str → Option Value) (fa : Addr) (h : Heap), YP w h → h.Ns mainGlobals mg → mg d.name = some (.ref fa) → ∃ (K : PySem.W.Frag) (fd : FuncData) (cs : List (Addr × Addr)) (T : List (Addr × Str)), K.In h ∧
      (∀ p ∈ cs, h.get? p.2 = some { cls := .none, data := .fields #[] }) ∧ (∀ p ∈ cs, K.lookup p.2 = none) ∧ (∀ p ∈ cs, PySem.W.CodeHd h p.1 p.2) ∧ (∀ q ∈ T, ∃ c, (c, q.1) ∈ cs) ∧ (∀ (s : Shared) (u : Value), BindsTo s fd ⟨[u], []⟩ [(x, u)]) ∧
      ∀ base : Heap, K.In base → base.Ns mainGlobals mg → (∀ p ∈ cs, TabB base mg p.1 p.2) → FnG l.prog w K mg base k fa fd [x] (spM K mg T 1 m)) :
    PySem.W.WalkO q loose XP YP l.row.toRowW d [] (fun f vs => PySem.call f vs) := by
  refine Att.attach_callB hn hdf fun w s₀ s₁ mg mb fa o pm cd doc a vs ns G Y ho hd hcd hmg hobj hints hlen hbits hg => ?_
  obtain ⟨K, fd, cs, T, KX, hT, nT, C, hTc, hb, hF⟩ := F w mg fa _ Y G.T.g hmg
  refine law_callG KX G.T.g G.T.b G.T.builtins G.T.nolimit hg hT nT C G.T.bmain hobj hints (Nat.le_trans hlen hn2) hr hF hb fun H hH hS => ?_
  obtain ⟨μ, hm⟩ := pl ns hlen hbits
  refine ⟨rfl, ⟨0, fun _ => 0, fun b => match H b with
    | some (.tbl _) => none
    | o => o, fun _ => none, fun _ => none, fun _ => none⟩, [], [.scr (ns.map D.int)], ?_, ?_, ?_⟩
  · refine ⟨rfl, fun b u h => ?_, (fun b u h => nomatch h), (fun b u h => nomatch h), (fun b u h => nomatch h), (fun b u h => nomatch h), fun l b h => by simp at h, fun l h => by simp at h, fun l l' h => absurd h (Nat.not_lt_zero _), fun q hq => ?_, ⟨(fun b u h => nomatch h), fun l c h => by simp at h, fun l kvs h => by simp at h⟩, fun b ps => ⟨fun h => ?_, nofun, nofun, nofun⟩⟩
    · simp only at h
      split at h
      · cases h
      · exact h
    · obtain ⟨c, hc⟩ := hTc q hq
      refine ⟨#[], hH _ hc, ?_, fun pos cv z => ?_⟩
      · exact trivial
      · cases z
    · simp only at h
      split at h
      · cases h
      · next hn => exact hn ps h
  · refine .cons (.scr (vs := ns.map V.int) (.inl ?_) ?_) .nil
    · rcases hS with (hS | ⟨o, hS⟩) | hS
      · exact .inl (.inl (by simp only [hS]))
      · exact .inl (.inr ⟨o, by simp only [hS]⟩)
      · exact .inr hS
    · clear hlen hbits hm hS hints
      induction ns with
      | nil => exact .nil
      | cons z zs ih => exact .cons (.int z) ih
  · rw [hm]
    intro w' v H' le rm rd
    cases rd
    rfl
end Kw
set_option Elab.async false
set_option linter.all false
set_option maxRecDepth 100000
namespace Kw
open PySem PySem.Spec PyProof.Rows L2 LamX
def permL {α : Type} (idx : List Nat) (l : List α) : List α := idx.filterMap (l[·]?)
abbrev FnP (K : PySem.W.Frag) (x : Str) (st : Stmt) (f : Addr) (fd : FuncData) : Prop := FunD K x x (defArgs st) (defBody st) (defScope st) [] [] f fd
/-- the def x does what m says -/
structure CalD (P : Program) (w : World) (K : PySem.W.Frag) (mg : Str → Option Value) (base : Heap) (T : List (Addr × Str)) (x : Str) (st : Stmt) (k : Nat) (ps : List Str) (m : FM) : Prop where
  ex : ∃ f fd, FnP K x st f fd ∧ mg x = some (.ref f) ∧ Binds K fd ps [] ∧ FnG P w K mg base k f fd ps (spM K mg T ps.length m)
section
variable {P : Program} {w : World} {K : PySem.W.Frag} {mg : Str → Option Value} {base : Heap} {T : List (Addr × Str)} {x : Str} {st : Stmt} {k : Nat} {ps : List Str} {m : FM} {f : Addr} {fd : FuncData}
theorem CalD.mk' (F : FnP K x st f fd) (hm : mg x = some (.ref f)) (hb : ∀ (kV doc pm : Value) (an : Option Addr) (cdv ct : Value) (us : List Value), us.length = ps.length → bindArgs (PySem.W.fnOf x x (defArgs st) (defBody st) (defScope st) .none kV doc pm an cdv ct) ⟨us, []⟩ = pure (ps.zip us))
    (h : FnG P w K mg base k f fd ps (spM K mg T ps.length m)) : CalD P w K mg base T x st k ps m := ⟨f, fd, F, hm, F.bindsN hb, h⟩
theorem FnP.bindsK {ks : List Str} {idx : List Nat} {a b : Nat} (F : FnP K x st f fd) (hb : ∀ (kV doc pm : Value) (an : Option Addr) (cdv ct : Value) (us ws : List Value), us.length = a → ws.length = b → bindArgs (PySem.W.fnOf x x (defArgs st) (defBody st) (defScope st) .none kV doc pm an cdv ct) ⟨us, ks.zip ws⟩ = pure (ps.zip (permL idx (us ++ ws))))
    (s : Shared) (us ws : List Value) (h1 : us.length = a) (h2 : ws.length = b) : BindsTo s fd ⟨us, ks.zip ws⟩ (ps.zip (permL idx (us ++ ws))) := by
  obtain ⟨oc, od, dV, kV, doc, pm, an, cdv, ct, osl, rfl, lk, hcd, hD, hK⟩ := F.ex
  rcases hD with ⟨_, rfl⟩ | ⟨e, _⟩
  · exact .of_eq (hb kV doc pm an cdv ct us ws h1 h2)
  · exact absurd rfl e
theorem permL_rel {w : Wd} : ∀ (idx : List Nat) {ds : List D} {vs : List V}, RelDs K mg w ds vs → RelDs K mg w (permL idx ds) (permL idx vs)
  | [], _, _, _ => .nil
  | i :: idx, ds, vs, h => by
    have ih := permL_rel idx h
    unfold permL at ih ⊢
    rw [List.filterMap_cons, List.filterMap_cons]
    cases e : ds[i]? with
    | none =>
      have : vs[i]? = none := by
        rw [List.getElem?_eq_none_iff] at e ⊢
        rw [← h.length]; exact e
      rw [this]
      exact ih
    | some d =>
      obtain ⟨v, hv, rv⟩ := h.get e
      rw [hv]
      exact .cons rv ih
theorem permL_vals : ∀ (idx : List Nat) {ds : List V} {vs : List Value}, Vals ds vs → Vals (permL idx ds) (permL idx vs)
  | [], _, _, _ => .nil
  | i :: idx, ds, vs, h => by
    have ih := permL_vals idx h
    unfold permL at ih ⊢
    rw [List.filterMap_cons, List.filterMap_cons]
    cases e : ds[i]? with
    | none =>
      have : vs[i]? = none := by
        rw [List.getElem?_eq_none_iff] at e ⊢
        rw [← h.length]; exact e
      rw [this]
      exact ih
    | some d =>
      obtain ⟨v, hv, rv⟩ := h.get e
      rw [hv]
      exact .cons rv ih
end
section
variable {X : Cx} {S : SI} {W : WX} {k j n a b : Nat} {ps ks : List Str} {x : Str} {p pos : Pos} {e : Expr} {es : List Expr} {kws : List Keyword} {mr mk : AM} {m : FM} {st : Stmt} {idx : List Nat}
/-- exceptions: none may come; or they are taken -/
theorem pass0 : ∀ σ, PassesAt (L2.CX X.prog X.w) X σ (WE W0 σ) := fun σ pins H s e s' I c => by
  obtain ⟨_, _, _, _, _, _, _, _, _, _, _, _, z⟩ := c
  exact z.elim
theorem passT (tk : Takes X W) : ∀ σ, PassesAt (L2.CX X.prog X.w) X σ (WE W σ) := passAt tk
theorem pe_P (C : CalD X.prog X.w X.K X.mg X.base S.T x st k ps m) (hx : ∀ σ, PassesAt (L2.CX X.prog X.w) X σ (WE W σ)) (hr : Room j X.A) (hk : k ≤ j) (hgd : X.A.guards = some []) (hg : Gl X x) (ha : PA X (e :: es) (TAm X S W mr)) (hn : ∀ δ μ ds μ', mr δ μ = .ok ds μ' → ds.length = ps.length) (hl : (e :: es).length = ps.length)
    (hdb : (x == ("__debug__" : Str)) = false := by decide) (he : starEach (e :: es) X.env = (false, eval e X.env) :: starEach es X.env := by rfl) (hpl : (backTo pos (starEach es X.env)).any (·.1) = false := by rfl) :
    PE X (.Call (.Name x p) (e :: es) [] pos) (TEm X S W <| eCallP m mr) := by
  obtain ⟨f, fd, F, hm, hb, G⟩ := C.ex
  exact pe_callP (fun t ht => pe_G G (hr.mono hk) hgd hg hm F.kp hb hx ht hdb he hpl) hl ha hn
theorem pe_M (C : CalD X.prog X.w X.K X.mg X.base S.T x st k ps m) (hx : ∀ σ, PassesAt (L2.CX X.prog X.w) X σ (WE W σ)) (hr : Room j X.A) (hk : k ≤ j) (hgd : X.A.guards = some []) (hg : Gl X x) (ha : PA X (e :: es) (TAm X S W mr)) (hn : ∀ δ μ ds μ', mr δ μ = .ok ds μ' → ds.length = ps.length) (hl : (e :: es).length = ps.length)
    (hdb : (x == ("__debug__" : Str)) = false := by decide) (he : starEach (e :: es) X.env = (false, eval e X.env) :: starEach es X.env := by rfl) (hpl : (backTo pos (starEach es X.env)).any (·.1) = false := by rfl) :
    PE X (.Call (.Name x p) (e :: es) [] pos) (TEm X S W <| eCallM m mr) := by
  obtain ⟨f, fd, F, hm, hb, G⟩ := C.ex
  exact pe_callM (fun t ht => pe_G G (hr.mono hk) hgd hg hm F.kp hb hx ht hdb he hpl) hl ha hn
def eCallK0 (m : FM) (idx : List Nat) (mk : AM) : EM := fun δ μ => (mk δ μ).bind fun es μ2 => callP m (permL idx es) μ2
theorem pe_K0 (C : CalD X.prog X.w X.K X.mg X.base S.T x st k ps m) (hb : ∀ (kV doc pm : Value) (an : Option Addr) (cdv ct : Value) (us ws : List Value), us.length = 0 → ws.length = b → bindArgs (PySem.W.fnOf x x (defArgs st) (defBody st) (defScope st) .none kV doc pm an cdv ct) ⟨us, ks.zip ws⟩ = pure (ps.zip (permL idx (us ++ ws))))
    (hi : ∀ ds : List D, ds.length = b → (permL idx ds).length = ps.length) (hx : ∀ σ, PassesAt (L2.CX X.prog X.w) X σ (WE W σ)) (hr : Room j X.A) (hk : k ≤ j) (hgd : X.A.guards = some []) (hg : Gl X x) (hkw : PK X kws (TAm X S W mk))
    (hn2 : ∀ δ μ ds μ', mk δ μ = .ok ds μ' → ds.length = b)
    (hall : (backToKw pos (keywordEach kws X.env)).all (·.1.isSome) = true := by rfl) (hks : (backToKw pos (keywordEach kws X.env)).filterMap (·.1) = ks := by rfl)
    (hdb : (x == ("__debug__" : Str)) = false := by decide)
    (hpl : ((backTo pos (starEach [] X.env)).any (·.1) || (backToKw pos (keywordEach kws X.env)).any (·.1.isNone)) = false := by rfl) :
    PE X (.Call (.Name x p) [] kws pos) (TEm X S W <| eCallK0 m idx mk) := by
  obtain ⟨f, fd, F, hm, _, G⟩ := C.ex
  have h0 : PE X (.Call (.Name x p) [] kws pos) (fun σ H Q => TAm X S W mk σ H fun zs H2 => zs.length = b ∧ spM X.K X.mg S.T ps.length m (permL idx zs) H2 Q (WE W σ)) := by
    refine ⟨fun pins s σ H Q I h => ?_⟩
    refine wpAny_Call_Name_kw (ld_glob I hg hm ?_ hdb)
    refine PySem.W.callWith_KW0 (h₀ := X.base) I.ok.mod.kin F.kp hall ?_ hpl
    refine thn (hkw.run pos pins s σ H _ I h) fun ws s2 ⟨zs, H2, I2, rz, l2, q2⟩ => ⟨I2.kIn, ?_⟩
    rw [hks]
    exact call_of (run_G G (hr.mono hk) hgd (hx σ) I2 (F.bindsK hb s2 [] ws rfl (by rw [← rz.length]; exact l2)) (permL_vals idx rz) q2)
  exact PEi h0 fun σ H Q ⟨w, δ, μ, h⟩ => ⟨w, δ, μ, by
    refine ⟨h.1, h.2.1, ?_⟩
    have h3 := h.2.2
    unfold eCallK0 at h3
    cases e : mk δ μ with
    | stuck => rw [e] at h3; exact h3.elim
    | exc x μ' => rw [e] at h3; exact h3
    | ok es μ' =>
      rw [e] at h3
      intro w' us H' le rm rs
      have l2 := hn2 _ _ _ _ e
      have rr := permL_rel idx rs
      refine ⟨by rw [← rs.length]; exact l2, sp_callP (by rw [← rr.length]; exact hi _ l2) rm rr ?_⟩
      exact Out.to_mono h3 (fun d μ2 q w3 v2 H2 le3 => q w3 v2 H2 (le.trans le3)) fun x μ2 q w3 c d H2 le3 => q w3 c d H2 (le.trans le3)⟩
end
end Kw
set_option Elab.async false
set_option linter.all false
set_option maxRecDepth 100000
namespace Kw
open PySem PySem.Spec PyProof.Rows L2
/-- a module's name -/
def GlD (K : PySem.W.Frag) (mg : Str → Option Value) (x : Str) (d : D) : Prop := ∃ v u, mg x = some u ∧ RelV v u ∧ ∀ w, RelD K mg w d v
theorem GlD.int {K : PySem.W.Frag} {mg : Str → Option Value} {x : Str} {i : Int} (h : ∃ t, mg x = some (.int i t)) : GlD K mg x (.int i) := by
  obtain ⟨t, h⟩ := h
  exact ⟨.int i, _, h, ⟨t, rfl⟩, fun w => .int i⟩
theorem ints_rel {K : PySem.W.Frag} {mg : Str → Option Value} {w : Wd} : ∀ ns : List Int, RelDs K mg w (ns.map D.int) (ns.map V.int)
  | [] => .nil
  | n :: ns => .cons (.int n) (ints_rel ns)
def gNeg : D → Mem → Option D
  | .int i, _ => some (.int (-i))
  | _, _ => none
theorem u64 {k : Nat} {A : Around} (r : Room k A) : A.units + 64 < cLine := r.units
theorem u65 {k : Nat} {A : Around} (r : Room k A) : A.units + 65 < cLine := by have := r.un; omega
theorem u200 {k : Nat} {A : Around} (r : Room k A) : A.units + 200 < cLine := by have := r.un; omega
section
variable {X : Cx} {S : SI} {W : WX} {a : Expr} {ma : EM} {pos : Pos} {x : Str} {i : Nat} {d : D}
theorem pv' (i : Nat) (hN : X.N[i]? = some x := by rfl) (hv : Vis X.env.scope x := by first | exact Or.inl rfl | exact Or.inr (Or.inl rfl) | exact Or.inr (Or.inr rfl)) (hd : (x == ("__debug__" : Str)) = false := by decide)
    (hcd : (x == ("__classdict__" : Str)) = false := by decide) : PE X (.Name x pos) (TEm X S W (eVar i)) := pe_var' hN hv hd hcd
theorem pe_gD (hg : Gl X x) (h : GlD X.K X.mg x d) (hd : (x == ("__debug__" : Str)) = false := by decide) : PE X (.Name x pos) (TEm X S W (eC d)) := by
  obtain ⟨v, u, hm, r, rd⟩ := h
  exact pe_C' (pe_glob hg hm r hd) rd
theorem pe_neg' (ha : PE X a (TEm X S W ma)) : PE X (.UnaryOp .USub a pos) (TEm X S W <| e1 gNeg ma) :=
  pe_1 (r := rU fun i => .int (-i)) (fun t h => pe_un un_neg h) (fun x H Q ⟨w, μ, dx, d, r, rx, e, q⟩ => by
    unfold gNeg at e
    split at e
    · cases rx; cases e
      exact ⟨_, rfl, q.same r (.int _)⟩
    · cases e) ha
end
end Kw
set_option Elab.async false
set_option linter.all false
set_option maxRecDepth 100000
namespace Kw
open PySem PySem.Spec PyProof.Rows L2
/-- a rewriting that the kernel is not asked to find again -/
theorem nr {α : Sort _} {a b : α} (h : a = b) : a = b := h
section
variable {α β : Type} {a : α} {μ μ1 μ2 : Mem} {x : Xn} {f : α → Mem → Out β} {k : α → Mem → SOut} {δ δ1 : Sv} {d e : D} {b : Bool}
@[simp] theorem bind_ok : (Out.ok a μ).bind f = f a μ := nr rfl
@[simp] theorem bind_exc : (Out.exc x μ : Out α).bind f = .exc x μ := nr rfl
@[simp] theorem bind_stuck : (Out.stuck : Out α).bind f = .stuck := nr rfl
@[simp] theorem bindS_ok : (Out.ok a μ).bindS δ k = k a μ := nr rfl
@[simp] theorem bindS_exc : (Out.exc x μ : Out α).bindS δ k = .exc x δ μ := nr rfl
@[simp] theorem bindS_stuck : (Out.stuck : Out α).bindS δ k = .stuck := nr rfl
@[simp] theorem oOf_some : oOf (some d) μ = .ok d μ := nr rfl
@[simp] theorem oOf_none : oOf none μ = .stuck := nr rfl
@[simp] theorem oOfM_some : oOfM (some (d, μ)) = .ok d μ := nr rfl
@[simp] theorem bOf_some : bOf (some b) μ = .ok b μ := nr rfl
@[simp] theorem eC_run : eC d δ μ = .ok d μ := nr rfl
@[simp] theorem then_nx {k : Sv → Mem → SOut} : (SOut.nx δ μ).then k = k δ μ := nr rfl
@[simp] theorem then_ret {k : Sv → Mem → SOut} : (SOut.ret d μ).then k = .ret d μ := nr rfl
@[simp] theorem sSeq_run {m1 m2 : SM} : sSeq m1 m2 δ μ = (m1 δ μ).then m2 := nr rfl
@[simp] theorem sNext_run : sNext δ μ = .nx δ μ := nr rfl
@[simp] theorem aNil_run : aNil δ μ = .ok [] μ := nr rfl
@[simp] theorem aCons_run {ma : EM} {mr : AM} : aCons ma mr δ μ = (ma δ μ).bind fun x μ1 => (mr δ μ1).bind fun xs μ2 => .ok (x :: xs) μ2 := nr rfl
@[simp] theorem e1_run {g : D → Mem → Option D} {ma : EM} : e1 g ma δ μ = (ma δ μ).bind fun x μ1 => oOf (g x μ1) μ1 := nr rfl
@[simp] theorem e2_run {g : D → D → Mem → Option D} {ma mb : EM} : e2 g ma mb δ μ = (ma δ μ).bind fun x μ1 => (mb δ μ1).bind fun y μ2 => oOf (g x y μ2) μ2 := nr rfl
@[simp] theorem eAs_run {g : List D → Mem → Option D} {ma : AM} : eAs g ma δ μ = (ma δ μ).bind fun xs μ1 => oOf (g xs μ1) μ1 := nr rfl
@[simp] theorem eAsM_run {g : List D → Mem → Option (D × Mem)} {ma : AM} : eAsM g ma δ μ = (ma δ μ).bind fun xs μ1 => oOfM (g xs μ1) := nr rfl
@[simp] theorem tTru_run {ma : EM} : tTru ma δ μ = (ma δ μ).bind fun x μ1 => bOf (truD μ1 x) μ1 := nr rfl
@[simp] theorem tNot_run {mt : TM} : tNotM mt δ μ = (mt δ μ).bind fun b μ1 => .ok (!b) μ1 := nr rfl
@[simp] theorem tAnd_run {ma mb : TM} : tAndM ma mb δ μ = (ma δ μ).bind fun b μ1 => if b = true then mb δ μ1 else .ok false μ1 := nr rfl
@[simp] theorem tOr_run {ma mb : TM} : tOrM ma mb δ μ = (ma δ μ).bind fun b μ1 => if b = true then .ok true μ1 else mb δ μ1 := nr rfl
@[simp] theorem tBl_run {m : EM} : tBl m δ μ = (m δ μ).bind fun d μ1 => match d with
  | .bl b => .ok b μ1
  | _ => .stuck := nr rfl
@[simp] theorem tYes_run : tYesM δ μ = .ok true μ := nr rfl
@[simp] theorem eNot_run {ma : EM} : eNotM ma δ μ = (ma δ μ).bind fun x μ1 => (bOf (truD μ1 x) μ1).bind fun b μ2 => .ok (.bl !b) μ2 := nr rfl
@[simp] theorem eAnd_run {ma mb : EM} : eAndM ma mb δ μ = (ma δ μ).bind fun x μ1 => (bOf (truD μ1 x) μ1).bind fun b μ2 => if b = true then mb δ μ2 else .ok x μ2 := nr rfl
@[simp] theorem eOr_run {ma mb : EM} : eOrM ma mb δ μ = (ma δ μ).bind fun x μ1 => (bOf (truD μ1 x) μ1).bind fun b μ2 => if b = true then .ok x μ2 else mb δ μ2 := nr rfl
@[simp] theorem eIf_run {mt : TM} {ma mb : EM} : eIfM mt ma mb δ μ = (mt δ μ).bind fun b μ1 => if b = true then ma δ μ1 else mb δ μ1 := nr rfl
@[simp] theorem sRet_run {ma : EM} : sRet ma δ μ = (ma δ μ).bindS δ fun d μ1 => .ret d μ1 := nr rfl
@[simp] theorem sDrop_run {ma : EM} : sDrop ma δ μ = (ma δ μ).bindS δ fun _ μ1 => .nx δ μ1 := nr rfl
@[simp] theorem sIf_run {mt : TM} {m1 m2 : SM} : sIf mt m1 m2 δ μ = (mt δ μ).bindS δ fun k μ1 => if k = true then m1 δ μ1 else m2 δ μ1 := nr rfl
@[simp] theorem sAsg_run {ma : EM} {g : GM} : sAsg ma g δ μ = (ma δ μ).bindS δ fun d μ1 => g d δ μ1 := nr rfl
@[simp] theorem gNm_run {i : Nat} : gNm i d δ μ = .nx (δ.set i (some d)) μ := nr rfl
@[simp] theorem sPar_run {i j : Nat} {ma : AM} : sPar i j ma δ μ = (ma δ μ).bindS δ fun ds μ1 => match ds with
  | [a, b] => .nx ((δ.set i (some a)).set j (some b)) μ1
  | _ => .stuck := nr rfl
@[simp] theorem sFor_run {mi : IM} {g : GM} {b : SM} : sFor mi g b δ μ = (mi δ μ).bindS δ fun items μ1 => loopS g b items δ μ1 := nr rfl
@[simp] theorem eCallP_run {m : FM} {ma : AM} : eCallP m ma δ μ = (ma δ μ).bind fun ds μ1 => callP m ds μ1 := nr rfl
@[simp] theorem eCallM_run {m : FM} {ma : AM} : eCallM m ma δ μ = (ma δ μ).bind fun ds μ1 => callM m ds μ1 := nr rfl
@[simp] theorem eCallK0_run {m : FM} {idx : List Nat} {mk : AM} : eCallK0 m idx mk δ μ = (mk δ μ).bind fun es μ2 => callP m (permL idx es) μ2 := nr rfl
@[simp] theorem gSubM_run {mo mi : EM} : gSubM mo mi d δ μ = (mo δ μ).bindS δ fun o μ1 => (mi δ μ1).bindS δ fun i μ2 => match gSet o i d μ2 with
  | some μ3 => .nx δ μ3
  | none => .stuck := nr rfl
@[simp] theorem eLc_run {mi : IM} {g : GM} {mt : TM} {me : EM} {vs : List Nat} : eLc mi g mt me vs δ μ = (mi δ μ).bind fun items μ1 => match lcL g mt me (wipeD δ vs) items μ1 with
  | .ok ys μ2 => if ys.length ≤ sizeLine then .ok (.lst ys) μ2 else .stuck
  | _ => .stuck := nr rfl
@[simp] theorem eMtL_run {g : D → List D → Mem → Option (D × Mem)} {mo : EM} {ma : AM} : eMtL g mo ma δ μ = (mo δ μ).bind fun x μ1 => if (lstX μ1 x).isSome = true then (ma δ μ1).bind fun xs μ2 => oOfM (g x xs μ2) else .stuck := nr rfl
@[simp] theorem gAdd_int {i j : Int} : gAdd (.int i) (.int j) μ = some (.int (i + j)) := nr rfl
@[simp] theorem gSub_int {i j : Int} : Kw.gSub (.int i) (.int j) μ = some (.int (i - j)) := nr rfl
@[simp] theorem gLt_int {i j : Int} : gLt (.int i) (.int j) μ = some (.bl (decide (i < j))) := nr rfl
@[simp] theorem gLe_int {i j : Int} : gLe (.int i) (.int j) μ = some (.bl (decide (i ≤ j))) := nr rfl
@[simp] theorem gGt_int {i j : Int} : gGt (.int i) (.int j) μ = some (.bl (decide (j < i))) := nr rfl
@[simp] theorem gGe_int {i j : Int} : gGe (.int i) (.int j) μ = some (.bl (decide (j ≤ i))) := nr rfl
theorem gMul_l {i j : Int} (h : -18446744073709551616 < i) (h2 : i < 18446744073709551616) : gMul (.int i) (.int j) μ = some (.int (i * j)) := if_pos (.inl (.inl ⟨by omega, h2⟩))
theorem gMul_r {i j : Int} (h : -18446744073709551616 < j) (h2 : j < 18446744073709551616) : gMul (.int i) (.int j) μ = some (.int (i * j)) := if_pos (.inl (.inr ⟨by omega, h2⟩))
theorem gMod_int {i j : Int} (h : 0 < j) : gMod (.int i) (.int j) μ = some (.int (i % j)) := if_pos h
theorem gFdv_int {i j : Int} (h : 0 < j) (h2 : j < 1073741824) : gFdv (.int i) (.int j) μ = some (.int (i / j)) := if_pos ⟨h, .inl h2⟩
@[simp] theorem gEq_int {i j : Int} : gEq (.int i) (.int j) μ = some (.bl (i == j)) := nr rfl
@[simp] theorem gNe_int {i j : Int} : gNe (.int i) (.int j) μ = some (.bl (!(i == j))) := nr rfl
@[simp] theorem gNe_bl {i j : Bool} : gNe (.bl i) (.bl j) μ = some (.bl (!(i == j))) := nr rfl
@[simp] theorem gInt_int {i : Int} : gInt [.int i] μ = some (.int i) := nr rfl
@[simp] theorem gAbs_int {i : Int} : gAbs [.int i] μ = some (.int (if i < 0 then -i else i)) := nr rfl
@[simp] theorem tru_bl : truD μ (.bl b) = some b := nr rfl
@[simp] theorem eCallP_def {m : FM} {ma : AM} : eCallP m ma δ μ = (ma δ μ).bind fun ds μ1 => callP m ds μ1 := nr rfl
end
theorem callP_ok {m : FM} {ds : List D} {μ μ' : Mem} {d : D} (h : m ds [] = .ok d μ') (hd : locBs false 0 ds = true) (hr : locB false 0 d = true) : callP m ds μ = .ok d μ := by
  unfold callP
  rw [if_pos hd, h]
  exact if_pos hr
theorem callP_lent {m : FM} {ds es : List D} {μ μ' : Mem} {d : D} (hd : locBs false 0 ds = false) (hf : frzWs (frzL μ 4) ds = some es) (h : m es [] = .ok d μ') (hr : locB true 0 d = true) : callP m ds μ = .ok d μ := by
  unfold callP
  rw [if_neg (by rw [hd]; decide), hf]
  simp only
  rw [h]
  exact if_pos hr
theorem callM_ok {m : FM} {ds : List D} {μ μ' : Mem} {d : D} (h : m ds μ = .ok d μ') (hl : μ'.length = μ.length) : callM m ds μ = .ok d μ' := by
  unfold callM
  rw [h]
  simp only
  split
  · rw [← hl, List.take_length]
  · rfl
theorem callM_new {m : FM} {ds : List D} {μ μ' : Mem} {l : Nat} (h : m ds μ = .ok (.loc l) μ') (hl : μ.length ≤ l) : callM m ds μ = .ok (.loc l) μ' := by
  unfold callM
  rw [h]
  simp only
  rw [if_neg]
  intro z
  rw [Bool.and_eq_true] at z
  have := z.1
  simp only [locB, decide_eq_true_eq] at this
  omega
theorem intsOf_map : ∀ l : List Int, intsOf (l.map D.int) = some l
  | [] => rfl
  | a :: l => by
    have := intsOf_map l
    simp [intsOf, this]
theorem loopS_nx {g : GM} {b : SM} {d : D} {ds : List D} {δ δ1 δ2 : Sv} {μ μ1 μ2 : Mem} (h1 : g d δ μ = .nx δ1 μ1) (h2 : b δ1 μ1 = .nx δ2 μ2) : loopS g b (d :: ds) δ μ = loopS g b ds δ2 μ2 := by
  conv => lhs; unfold loopS
  simp only [h1, h2]
theorem loopS_ct {g : GM} {b : SM} {d : D} {ds : List D} {δ δ1 δ2 : Sv} {μ μ1 μ2 : Mem} (h1 : g d δ μ = .nx δ1 μ1) (h2 : b δ1 μ1 = .ct δ2 μ2) : loopS g b (d :: ds) δ μ = loopS g b ds δ2 μ2 := by
  conv => lhs; unfold loopS
  simp only [h1, h2]
theorem loopS_inv {g : GM} {b : SM} {I : Sv → Mem → Prop} : ∀ {items : List D} {δ : Sv} {μ : Mem}, (∀ d ∈ items, ∀ δ μ, I δ μ → ∃ δ1 δ2 μ2, g d δ μ = .nx δ1 μ ∧ (b δ1 μ = .nx δ2 μ2 ∨ b δ1 μ = .ct δ2 μ2) ∧ I δ2 μ2) → I δ μ → ∃ δ' μ', loopS g b items δ μ = .nx δ' μ' ∧ I δ' μ'
  | [], δ, μ, _, hi => ⟨δ, μ, rfl, hi⟩
  | d :: ds, δ, μ, h, hi => by
    obtain ⟨δ1, δ2, μ2, h1, h2, h3⟩ := h d List.mem_cons_self δ μ hi
    obtain ⟨δ', μ', h4, h5⟩ := loopS_inv (items := ds) (fun e he => h e (List.mem_cons_of_mem _ he)) h3
    refine ⟨δ', μ', ?_, h5⟩
    unfold loopS
    rw [h1]
    simp only
    rcases h2 with h2 | h2 <;> rw [h2] <;> exact h4
/-- the places but l stay -/
def Stay (l : Nat) (μ μ' : Mem) : Prop := μ'.length = μ.length ∧ ∀ i, i ≠ l → μ'[i]? = μ[i]?
theorem Stay.refl (l : Nat) (μ : Mem) : Stay l μ μ := ⟨rfl, fun _ _ => rfl⟩
theorem Stay.trans {l : Nat} {a b c : Mem} (x : Stay l a b) (y : Stay l b c) : Stay l a c := ⟨y.1.trans x.1, fun i h => (y.2 i h).trans (x.2 i h)⟩
theorem Stay.set (l : Nat) (μ : Mem) (b : Ob) : Stay l μ (μ.set l b) := ⟨List.length_set .., fun i h => List.getElem?_set_ne fun e => h e.symm⟩
end Kw
set_option Elab.async false
set_option linter.all false
set_option maxRecDepth 100000
set_option maxHeartbeats 2000000
namespace PySem
namespace KwX
open PySem.W PySem.Calls PyProof.Rows PySem.HandSPX PySem.F Builtin Builtin.ObjectAttr
/-- own classes, then this tail -/
def refsT (t : List Value) : List Value → Bool
  | .ref _ :: r => refsT t r
  | l => l == t
structure BasF (B NB nw ini : String) (tail : List Value) : Prop where
  nk : builtinKind nw = some .builtinFn
  nsp : splitId nw = some (NB, "__new__")
  nr : Manifest.signature? nw = some ⟨.any, NB, NB, .cls, [⟨"args", .varPos, false⟩, ⟨"kwargs", .varKw, false⟩]⟩
  nst : (NB != "*") = true
  nq : nw.startsWith "lifetime." = false
  nends : nw.endsWith ".__new__" = true
  nown : nw.dropRight 8 = NB
  nent : entryFor table nw = some Builtin.«BaseException.__new__»
  ncan : Manifest.canonical nw = Manifest.canonical "BaseException.__new__"
  isl : Slot B "__init__" ini
  ient : entryFor table ini = some Builtin.«BaseException.__init__»
  iq : ini.startsWith "lifetime." = false
  ik : builtinKind ini = some .slot
  isp : splitId ini = some (B, "__init__")
  ir : Manifest.signature? ini = some ⟨.positional, "*", B, .self, [⟨"args", .varPos, false⟩]⟩
  ist : (B != "*") = true
  cN : tail.contains (.type NB) = true
  cB : tail.contains (.type B) = true
  cA : tail.contains (.type "AttributeError") = false
  cM : tail.contains (.type "NameError") = false
  cO : tail.contains (.type "object") = true
  ne : tail.isEmpty = false
  nore : ∀ c r, tail ≠ .ref c :: r
  pass : ∀ self, refuseLoop self "__setattr__" tail = pure ()
  kx : KxsFacts B ini
theorem bas_VE : BasF "ValueError" "ValueError" "ValueError.__new__" "ValueError.__init__" veTail where
  nk := excBase_ValueError.newKind
  nsp := excBase_ValueError.newSplit
  nr := excBase_ValueError.newRow
  nst := excBase_ValueError.noStar
  nq := excBase_ValueError.quiet
  nends := excBase_ValueError.ends
  nown := excBase_ValueError.owner
  nent := excBase_ValueError.entry
  ncan := excBase_ValueError.canon
  isl := excBase_ValueError.init
  ient := excBase_ValueError.initEntry
  iq := by decide +kernel
  ik := excBase_ValueError.initKind
  isp := excBase_ValueError.initSplit
  ir := excBase_ValueError.initRow
  ist := excBase_ValueError.noStar
  cN := by decide +kernel
  cB := by decide +kernel
  cA := by decide +kernel
  cM := by decide +kernel
  cO := by decide +kernel
  ne := rfl
  nore := fun c r => by nofun
  pass := F.store_ValueError.passes
  kx := kxs_ValueError
abbrev keTail : List Value := [.type "KeyError", .type "LookupError", .type "Exception", .type "BaseException", .type "object"]
theorem bas_KE : BasF "KeyError" "LookupError" "LookupError.__new__" "KeyError.__init__" keTail where
  nk := by decide +kernel
  nsp := by decide +kernel
  nr := by kernel_rfl
  nst := by decide +kernel
  nq := by decide +kernel
  nends := by decide +kernel
  nown := by decide +kernel
  nent := excClass_KeyError.newEntry
  ncan := by decide +kernel
  isl := excClass_KeyError.init
  ient := excClass_KeyError.initEntry
  iq := by decide +kernel
  ik := by decide +kernel
  isp := by decide +kernel
  ir := by kernel_rfl
  ist := by decide +kernel
  cN := by decide +kernel
  cB := by decide +kernel
  cA := by decide +kernel
  cM := by decide +kernel
  cO := by decide +kernel
  ne := rfl
  nore := fun c r => by nofun
  pass := fun self => by kernel_rfl
  kx := ⟨by show builtinType _ = _; rw [builtinType_eq_fast]; kernel_rfl, by first | kernel_rfl | rfl⟩
theorem refsT_cases {t : List Value} : ∀ l : List Value, refsT t l = true → (∃ c r, l = .ref c :: r ∧ refsT t r = true) ∨ l = t
  | .ref c :: r, e => .inl ⟨c, r, rfl, e⟩
  | [], e => .inr (beq_iff_eq.mp e)
  | .none :: _, e => .inr (beq_iff_eq.mp e)
  | .int _ _ :: _, e => .inr (beq_iff_eq.mp e)
  | .ellipsis :: _, e => .inr (beq_iff_eq.mp e)
  | .bool _ :: _, e => .inr (beq_iff_eq.mp e)
  | .notImplemented :: _, e => .inr (beq_iff_eq.mp e)
  | .str _ _ :: _, e => .inr (beq_iff_eq.mp e)
  | .float _ _ :: _, e => .inr (beq_iff_eq.mp e)
  | .type _ :: _, e => .inr (beq_iff_eq.mp e)
  | .bytes _ _ :: _, e => .inr (beq_iff_eq.mp e)
  | .builtin _ :: _, e => .inr (beq_iff_eq.mp e)
section
variable {B NB nw ini : String} {tail : List Value} (F : BasF B NB nw ini tail)
include F
theorem refsT_pass (self : Value) : ∀ l : List Value, refsT tail l = true → refuseLoop self "__setattr__" l = pure ()
  | l, e => by
    rcases refsT_cases l e with ⟨c, r, q, h⟩ | q
    · subst q
      rw [refuseLoop_ref]
      exact refsT_pass self r h
    · rw [q]; exact F.pass self
theorem refsT_has (X : String) : ∀ l : List Value, refsT tail l = true → l.contains (.type X) = tail.contains (.type X)
  | l, e => by
    rcases refsT_cases l e with ⟨c, r, q, h⟩ | q
    · subst q
      rw [List.contains_cons, refsT_has X r h]; rfl
    · rw [q]
theorem refsT_ne {l : List Value} (e : refsT tail l = true) : l.isEmpty = false := by
  rcases refsT_cases l e with ⟨c, r, q, h⟩ | q
  · rw [q]; rfl
  · rw [q]; exact F.ne
end
section
variable {M : Model} {A : Around} {E : Value → Shared → Prop} {h : Heap} {g : Array GenState} {d : Drawn} {t : Nat} {os : OsState} {R : Result → Shared → Prop} {prog : Program} {w : World}
variable {C N : Addr} {nm q : Str} {bs bm tail : List Value} {sn : List Str} {hdct : Bool} {sub : List Value} {col : Option Bool} {ab : Bool} {dd : Option Addr} {k0 k1 k2 k3 k5 : Option Value} {B NB nw ini : String}
theorem b_check_new (F : BasF B NB nw ini tail) (hm : refsT tail bm = true) {rest : List Value} {Q : Unit → Shared → Prop}
    (hC : h.get? C = some (excClassObj nm q C N bs bm hdct sn sub ab col dd k0 k1 k2 k3 k5 nw)) (hq : Q () ⟨h, g, d, t, os⟩) : wpAny M A (checkBuiltinCall nw ⟨.ref C :: rest, []⟩) Q E ⟨h, g, d, t, os⟩ := by
  have hcont : (Value.ref C :: bm).contains (.type NB) = true := by rw [List.contains_cons, refsT_has F NB _ hm, F.cN, Bool.or_true]
  have hs := F.nst
  simp only [checkBuiltinCall, F.nk, F.nsp, F.nr]
  repeat (first | (refine wpAny_isSubtype_exc hC ?_; rw [hcont]) | refine wpAny_staticBase_exc hC ?_ | refine wpAny_loadPart_at hC ?_ | refine wpAny_madeBy_exc hC ?_ | simp only [bne_self_eq_false, Bool.false_eq_true, if_false] | wp_step)
  exact hq
theorem b_check_init (F : BasF B NB nw ini tail) (hm : refsT tail bm = true) {e : Addr} {oe : Obj} {rest : List Value} {Q : Unit → Shared → Prop}
    (hC : h.get? C = some (excClassObj nm q C N bs bm hdct sn sub ab col dd k0 k1 k2 k3 k5 nw)) (he : h.get? e = some oe) (hcls : oe.cls = .ref C) (hq : Q () ⟨h, g, d, t, os⟩) :
    wpAny M A (checkBoundCall ini ⟨.ref e :: rest, []⟩) Q E ⟨h, g, d, t, os⟩ := by
  have hs := F.ist
  simp only [checkBoundCall, F.ik, F.ir]
  repeat (first | (with_reducible refine wpAny_loadPart_at he ?_; rw [hcls]) | wp_step)
  refine wpAny_onRaise ?_
  have hk : ∀ (a b : String) (n : Nat), Bind.check ⟨.positional, "*", B, .self, [⟨"args", .varPos, false⟩]⟩ a b n (List.map (fun x => x.fst) ({ pos := Value.ref e :: rest } : Args).kw) = pure () := fun a b n => check_star_args _ _ _ _ _ _
  rw [hk]; exact wpAny_pure hq
theorem b_new (F : BasF B NB nw ini tail) (hm : refsT tail bm = true) {rest : List Value} (hC : h.get? C = some (excClassObj nm q C N bs bm hdct sn sub ab col dd k0 k1 k2 k3 k5 nw))
    (hq : R (.ok (.ret (.ref (h.objs.size + 1)))) ⟨(h.push { cls := .type "tuple", data := .seq rest.toArray }).push { cls := .ref C, data := .fields #[.ref h.objs.size, .none, .none, .none, .bool false, .none] }, g, d, t, os⟩) (hrest : rest.length ≤ sizeLine) :
    codeAny (model prog w) A (.builtin nw ⟨.ref C :: rest, []⟩) R ⟨h, g, d, t, os⟩ := by
  have hends := F.nends
  have cN : (Value.ref C :: bm).contains (.type NB) = true := by rw [List.contains_cons, refsT_has F NB _ hm, F.cN, Bool.or_true]
  have cA : (Value.ref C :: bm).contains (.type "AttributeError") = false := by rw [List.contains_cons, refsT_has F _ _ hm, F.cA]; rfl
  have cM : (Value.ref C :: bm).contains (.type "NameError") = false := by rw [List.contains_cons, refsT_has F _ _ hm, F.cM]; rfl
  refine codeAny_builtinAt F.nent ?_
  unfold Builtin.«BaseException.__new__»
  refine wpAt_bind ?_
  show wpAt _ _ _ (stack >>= _) _ _ _
  refine wpAt_bind (wpAt_stack fun p below => wpAt_of_wpAny ?_)
  wp_walk
  refine wpAt_of_wpAny ?_
  rw [F.nown]
  repeat (first | with_reducible refine wpAny_madeHere_exc F.ncan hC ?_ | (with_reducible refine wpAny_isSubtype_exc hC ?_; first | rw [cN] | rw [cA] | rw [cM]) | with_reducible refine wpAny_loadPart_at hC ?_ | wp_step)
  show R _ _
  rw [Heap.size_push]; exact hq
theorem b_type_call (F : BasF B NB nw ini tail) (hm : refsT tail bm = true) {rest : List Value} {fI : Addr} {Q : Fin → Shared → Prop} (hC : h.get? C = some (excClassObj nm q C N bs bm hdct sn sub ab col dd k0 k1 k2 k3 k5 nw))
    (hi : W.Looks (model prog w) h (typeLookup (.ref C) "__init__") (some (.ref fI))) (hb : ∀ self, W.Looks (model prog w) h (bindSpecial (.ref fI) self) (.ref fI, [self])) (hrest : rest.length ≤ sizeLine)
    (hq : codeAny (model prog w) A (.call (.ref fI) ⟨.ref (h.objs.size + 1) :: rest, []⟩) (fun r s' => match r with | .ok (.ret v) => v = .none ∧ Q (.done (.ret (.ref (h.objs.size + 1)))) s' | .ok _ => False | .error e => E e s') ⟨(h.push (W.kdv_tup rest)).push (excO C h.objs.size), g, d, t, os⟩) :
    wpAny (model prog w) A (Builtin.«type.__call__» ⟨.ref C :: rest, []⟩) Q E ⟨h, g, d, t, os⟩ := by
  repeat (first | with_reducible refine wpAny_madeBy_exc hC ?_ | with_reducible refine wpAny_loadPart_at hC ?_ | wp_step)
  refine codeAny_call_builtin_code (Code.quiet_builtin _ F.nq) (b_check_new F hm hC ?_)
  refine b_new F hm hC ?_ hrest
  show wpAny _ _ _ _ _ _
  have k : ∀ b o, h.get? b = some o → ((h.push (W.kdv_tup rest)).push (excO C h.objs.size)).get? b = some o := fun b o e => Heap.get?_push_of_some _ (Heap.get?_push_of_some _ e)
  have c1 := k _ _ hC
  have hget : ((h.push (W.kdv_tup rest)).push (excO C h.objs.size)).get? (h.objs.size + 1) = some (excO C h.objs.size) := by heap_get
  have cC : (Value.ref C :: bm).contains (.ref C) = true := by simp
  have i1 := hi.keeps k
  have b1 := (hb (.ref (h.objs.size + 1))).keeps k
  unfold isInstance
  repeat (first | (with_reducible refine wpAny_isSubtype_exc c1 ?_; rw [cC]) | with_reducible refine wpAny_loadPart_at hget ?_ | wp_step)
  show wpAny _ _ (typeLookup (.ref C) _) _ _ _
  refine i1.at (wpAny_holding (wpAny_bind (b1.at ?_)))
  refine wpAny_bind (wpAny_call (codeAny_mono hq fun r s' z => ?_))
  rcases r with e | (v | _ | _ | _) <;> first | exact z | exact z.elim | skip
  obtain ⟨rfl, z⟩ := z
  first | exact wpAny_pure (wpAny_pure z) | (wp_walk; exact z)
theorem b_call (F : BasF B NB nw ini tail) (hm : refsT tail bm = true) {rest : List Value} {fI : Addr} (hC : h.get? C = some (excClassObj nm q C N bs bm hdct sn sub ab col dd k0 k1 k2 k3 k5 nw))
    (hi : W.Looks (model prog w) h (typeLookup (.ref C) "__init__") (some (.ref fI))) (hb : ∀ self, W.Looks (model prog w) h (bindSpecial (.ref fI) self) (.ref fI, [self])) (hrest : rest.length ≤ sizeLine)
    (hq : codeAny (model prog w) (A.under (.builtin "type.__call__" ⟨.ref C :: rest, []⟩)) (.call (.ref fI) ⟨.ref (h.objs.size + 1) :: rest, []⟩) (W.InitBack (h.objs.size + 1) R) ⟨(h.push (W.kdv_tup rest)).push (excO C h.objs.size), g, d, t, os⟩) :
    codeAny (model prog w) A (.call (.ref C) ⟨rest, []⟩) R ⟨h, g, d, t, os⟩ := by
  have f1 := tc_lookup
  have f2 := tc_bind (.ref C)
  have hTy : (⟨h, g, d, t, os⟩ : Shared).TypeIs (.ref C) "type" := ⟨_, hC, rfl⟩
  refine codeAny_of_tree ?_
  show wpAny _ _ (callAny (.ref C) _) _ _ _
  repeat (any_goals (first | with_reducible refine wpAny_loadPart_at hC ?_ | assumption | wp_step))
  refine ⟨rfl, ?_⟩
  refine codeAny_call_builtin_at (Code.quiet_builtin _ (by decide +kernel)) entry_typeCall (wpAny_check_type_call_sub hC (b_type_call F hm hC hi hb hrest ?_))
  refine codeAny_mono hq fun r s' z => ?_
  rcases r with e | (v | _ | _ | _) <;> exact z
end
section
variable {prog : Program} {w : World} {A : Around} {E : Value → Shared → Prop} {R : Result → Shared → Prop} {hp : Heap} {g : Array GenState} {d : Drawn} {t : Nat} {os : OsState} {B NB nw ini : String} {tail : List Value}
theorem b_osa (FF : BasF B NB nw ini tail) {K : W.Frag} {name : Str} {tk : Tok} {v : Value} {x C : Addr} {fv : Array Value} {cd : ClassData}
    (X : K.In hp) (hx : hp.get? x = some { cls := .ref C, data := .fields fv }) (hcd : W.clsIn K C = some cd) (hm : refsT tail cd.mro = true) (hh : cd.hasDict = true) (ha : W.findIn K (.ref C) name = some none)
    (hq : ∀ h' tk' dx, (∀ b o, b ≠ x → hp.get? b = some o → h'.get? b = some o) → hp.objs.size ≤ dx → dx ≠ x → h'.get? x = some { cls := .ref C, dict := some dx, data := .fields fv } → h'.Ns1 dx (fun y => if y = name then some v else none) → R (.ok (.ret .none)) ⟨h', g, d, tk', os⟩) :
    codeAny (model prog w) A (.call (.builtin "object.__setattr__") ⟨[.ref x, .str name tk, v], []⟩) R ⟨hp, g, d, t, os⟩ := by
  have I : W.InstAt hp x { cls := .ref C, data := .fields fv } C none := ⟨hx, rfl, rfl, trivial⟩
  have SF := F.store_object
  have ne := refsT_ne FF hm
  have ob : cd.mro.contains (.type "object") = true := (refsT_has FF "object" _ hm).trans FF.cO
  have hxs : x ≠ hp.objs.size := Nat.ne_of_lt (Heap.lt_size hx)
  have sub : W.Looks (model prog w) hp (isInstance (.ref x) (.type "object")) true := I.type.andThen (W.looks_mroIn X (by unfold W.mroIn; rw [hcd, Option.bind_some, if_neg (by rw [ne]; decide), ob]))
  refine codeAny_call_builtin SF.slot.plain SF.entry (@W.check_slot (model prog w) _ _ ⟨hp, g, d, t, os⟩ "object.__setattr__" "object" "__setattr__" (.ref x) [.str name tk, v] [] _ SF.kind SF.split sub (SF.args (.ref x) (.str name tk) v) ?_)
  have m1 : W.Looks (model prog w) hp (mroOf (.ref C)) cd.mro := (W.looks_clsIn X hcd).andThen .now
  have m3 : W.Looks (model prog w) hp (storeTaker? none) none := .now
  have m2 : W.Looks (model prog w) hp (classData C) cd := W.looks_clsIn X hcd
  rw [W.osa_eq, refuse_eq]
  refine wpAny_bind (wpAny_bind (I.type.at (wpAny_bind (m1.at ?_))))
  rw [refsT_pass FF _ _ hm]
  refine wpAny_pure (wpAny_bind (I.type.at (wpAny_bind ((W.looks_findIn X ha).at (wpAny_bind (m3.at ?_))))))
  show wpAny _ _ (storeInOwnDict (.ref x) (.ref C) (.str name tk) name v false) _ _ _
  obtain ⟨nm, bs, mro, ns, qn, hd, sn, sb, ab, col, del⟩ := cd
  dsimp only at hh
  subst hh
  unfold storeInOwnDict ownDictForStores
  repeat (first | with_reducible refine store_in_new ?_ ?_ | with_reducible refine m2.at ?_ | with_reducible refine wpAny_loadPart_at hx ?_ | wp_step)
  · exact ⟨_, #[], _, (Heap.get?_update_ne _ _ _ _ hxs.symm).trans (Heap.get?_push_at rfl rfl), rfl, fun e he => absurd he (by simp), fun _ => rfl⟩
  · intro h' tk' hn' hs
    have hx1 : (hp.push { cls := .type "dict", data := .dict #[] }).get? x = some { cls := .ref C, data := .fields fv } := Heap.get?_push_of_some _ hx
    refine hq h' tk' hp.objs.size (fun b o hb ho => ?_) (Nat.le_refl _) hxs.symm ?_ hn'
    · exact (hs.2 b (Nat.ne_of_lt (Heap.lt_size ho))).trans ((Heap.get?_update_ne _ _ _ _ hb).trans (Heap.get?_push_of_some _ ho))
    · exact (hs.2 x hxs).trans (Heap.get?_update_self _ hx1 rfl)
end
end KwX
end PySem
set_option Elab.async false
set_option linter.all false
set_option maxRecDepth 100000
set_option maxHeartbeats 2000000
namespace PySem
namespace KwX
open PySem.W PySem.Calls PyProof.Rows PySem.HandSPX
def iA (fld : Str) (p1 p2 : Pos) : Arguments := { posonlyargs := [], args := [{ arg := "self", annotation := none, pos := p1 }, { arg := fld, annotation := none, pos := p2 }], vararg := none, kwonlyargs := [], kw_defaults := [], kwarg := none, defaults := [] }
def iB (fld txt : Str) (j : Nat) (q1 q2 q3 q4 q5 q6 q7 q8 q9 q10 : Pos) : List Stmt := [.Expr (.Call (.Attribute (.Call (.Name "super" q1) [] [] q2) "__init__" q3) [.Constant (.str txt) j q4] [] q5) q6, .Assign [.Attribute (.Name "self" q7) fld q8] (.Name fld q9) q10]
def iS (fld : Str) : Scope := { kind := .function, names := [(PySem.Str.ofString "self", .local), (fld, .local), (PySem.Str.ofString "__class__", .free), (PySem.Str.ofString "super", .globalImplicit)], isGenerator := false, isCoroutine := false, more := [] }
section
variable {prog : Program} {w : World} {A : Around} {E : Value → Shared → Prop} {h : Heap} {g : Array GenState} {d : Drawn} {t : Nat} {os : OsState}
variable {nm q : Str} {C N : Addr} {bs bm tail : List Value} {hdct : Bool} {sn : List Str} {sub : List Value} {ab : Bool} {col : Option Bool} {dd : Option Addr} {k0 k1 k2 k3 k5 : Option Value} {B NB nw ini : String}
/-- the built-in __init__, bound, called -/
theorem call_mw (FB : BasF B NB nw ini tail) (hm : refsT tail bm = true) {u e t0 : Addr} {rest : List Value} {Q : Value → Shared → Prop}
    (hC : h.get? C = some (excClassObj nm q C N bs bm hdct sn sub ab col dd k0 k1 k2 k3 k5 nw)) (he : h.get? e = some (HandSPX.excO C t0)) (hu : h.get? u = some (kxs_mw ini e)) (hrest : rest.length ≤ sizeLine)
    (hq : ∀ h' t1, (∀ b o, b ≠ e → h.get? b = some o → h'.get? b = some o) → h'.get? e = some (HandSPX.excO C t1) → Q .none ⟨h', g, d, t, os⟩) :
    wpAny (model prog w) A (call (.ref u) rest) Q E ⟨h, g, d, t, os⟩ := by
  refine wpAny_call (codeAny_of_tree ?_)
  show wpAny _ A.in1 (callAny (.ref u) ⟨rest, []⟩) _ _ _
  simp only [callAny]
  refine wpAny_bind (wpAny_load hu ?_)
  simp only [kxs_mw, show (Value.type "method-wrapper" == Value.type "method" || Value.type "method-wrapper" == Value.type "builtin_function_or_method" || Value.type "method-wrapper" == Value.type "method-wrapper") = true by decide, if_true]
  refine W.KFB.if_so (by decide) ?_
  refine wpAny_bind (b_check_init FB hm hC he rfl ?_)
  refine wpAny_bind (wpAny_pure (wpAny_pure ?_))
  refine ⟨Code.quiet_builtin _ FB.iq, codeAny_builtin FB.ient ?_⟩
  rw [Around.under_plainId FB.isl.plain _]
  wp_walk
  refine hq _ h.objs.size (fun b o hb ho => ?_) ?_
  · rw [Heap.get?_update_other _ _ (Ne.symm hb)]
    exact Heap.get?_push_of_some _ ho
  · rw [Heap.get?_update_self _ (Heap.get?_push_of_some _ he) rfl]
    rfl
end
/-- what the written part says of the class cn, at C, and of its __init__, at fI -/
structure SupTxt (P : Program) (K : Frag) (mg : Str → Option Value) (cn fld txt : Str) (C fI : Addr) : Prop where
  gC : mg cn = some (.ref C)
  kind : ∃ (B NB nw ini : String) (tail : List Value), BasF B NB nw ini tail ∧ (∃ nm q N bs bm sn sub ab col dd k0 k1 k2 k3 k5, K.lookup C = some (excClassObj nm q C N bs bm true sn sub ab col dd k0 k1 k2 k3 k5 nw) ∧ refsT tail bm = true) ∧
    subIn K (.ref C) (.type B) = some true ∧ ks_superIn K C C "__init__" = some (some (.builtin ini))
  sa : findIn K (.ref C) "__setattr__" = some (some (.builtin "object.__setattr__"))
  ga : findIn K (.ref C) "__getattribute__" = some (some (.builtin "BaseException.__getattribute__"))
  gg : findIn K (.ref C) "__getattr__" = some none
  noN : findIn K (.ref C) fld = some none
  iC : findIn K (.ref C) "__init__" = some (some (.ref fI))
  tC : typeIn K (.ref fI) = some (.type "function")
  kC : keepIn K (.ref C) = true
  exC : subIn K (.ref C) (.type "BaseException") = some true
  tyC : typeIn K (.ref C) = some (.type "type")
  hdC : hasDictIn K C = true
  ne1 : ¬ fld = "self"
  binds : ∀ (qual : Str) (kV doc pm : Value) (an : Option Addr) (cdv ct : Value) (cc : Addr) (j : Nat) (p1 p2 q1 q2 q3 q4 q5 q6 q7 q8 q9 q10 : Pos) (a v : Value), bindArgs (ksFn "__init__" qual (iA fld p1 p2) (iB fld txt j q1 q2 q3 q4 q5 q6 q7 q8 q9 q10) (iS fld) .none kV doc pm an cdv ct cc) ⟨[a, v], []⟩ = pure ([(PySem.Str.ofString "self", a), (fld, v)] : List (Str × Value))
  kin : (iS fld).names.lookup fld = some .local
  kSup : (iS fld).names.lookup ("super" : Str) = some .globalImplicit
  kCls : (iS fld).names.lookup ("__class__" : Str) = some .free
  size : txt.length ≤ sizeLine
  ne2 : (fld == ("__debug__" : Str)) = false
  self_ : mroIn K C (.ref C) = some true
  opq : nsIn K cStatics "thirdparty.any" = some none
  free : mg "super" = none
  top : (P.main.scope.names.lookup ("super" : Str)).isSome = false
  fn : ∃ (oc : Value) (od : Option Addr) (kV doc pm : Value) (an : Option Addr) (ct ccl : Value) (cdd : Option Addr) (vs : Array Value) (ccs : Array (Option Value)) (osl csl : Array (Option Value)) (cl : Value) (cld : Option Addr) (file : Str) (tf : Tok) (qual : Str) (cda cc : Addr) (j : Nat) (p1 p2 q1 q2 q3 q4 q5 q6 q7 q8 q9 q10 : Pos),
    K.lookup fI = some ⟨oc, od, .func (ksFn "__init__" qual (iA fld p1 p2) (iB fld txt j q1 q2 q3 q4 q5 q6 q7 q8 q9 q10) (iS fld) .none kV doc pm an (.ref cda) ct cc), osl⟩ ∧ codeIn K (.ref cda) qual = true ∧
    K.lookup cda = some ⟨ccl, cdd, .fields vs, ccs⟩ ∧ vs[2]? = some (.str file tf) ∧ ((P.main.file : Str) == file) = true ∧ K.lookup cc = some ⟨cl, cld, .cell (some (.ref C)), csl⟩ ∧ (q3.endLine == q5.line) = true
/-- what __init__ leaves of a fresh exception at x -/
structure InitEnd (fld : Str) (h h' : Heap) (x C dx t1 : Addr) (v : Value) : Prop where
  keep : ∀ b o, b ≠ x → h.get? b = some o → h'.get? b = some o
  obj : h'.get? x = some { cls := .ref C, dict := some dx, data := .fields #[.ref t1, .none, .none, .none, .bool false, .none] }
  dbig : h.objs.size ≤ dx
  dne : dx ≠ x
  ns : h'.Ns1 dx (fun y => if y = fld then some v else none)
section
variable {prog : Program} {w : World} {A : Around} {E : Value → Shared → Prop} {R : Result → Shared → Prop} {s : Shared} {K : Frag} {mg mb : Str → Option Value} {cn fld txt : Str} {C fI : Addr}
theorem sup_init (T : SupTxt prog K mg cn fld txt C fI) {x t0 : Addr} {v : Value} (X : K.In s.heap) (hG : s.heap.Ns mainGlobals mg) (hB : s.heap.Ns builtinsNs mb) (hbb : ∀ y : Str, y ≠ "__name__" → mb y = bootBuiltins y) (hlim : s.heap.NoLimit) (hx : s.heap.get? x = some (excO C t0)) (hnx : K.lookup x = none) (hroom : A.depth < recursionLimit)
    (hnG : x ≠ mainGlobals) (hnB : x ≠ builtinsNs)
    (hq : ∀ h' tk dx t1, InitEnd fld s.heap h' x C dx t1 v → R (.ok (.ret .none)) { s with heap := h', toks := tk }) :
    codeAny (model prog w) A (.call (.ref fI) ⟨[.ref x, v], []⟩) R s := by
  obtain ⟨oc, od, kV, doc, pm, an, ct, ccl, cdd, vs, ccs, osl, csl, cl, cld, file, tf, qual, cda, cc, j, p1, p2, q1, q2, q3, q4, q5, q6, q7, q8, q9, q10, ho, hcd, hcode, hvs, hfile, hcell, hline⟩ := T.fn
  obtain ⟨B, NB, nw, ini, tail, FB, ⟨nm, q, N, bs, bm, sn, sub, ab, col, dd, k0, k1, k2, k3, k5, hC, hbm⟩, veC, hsup⟩ := T.kind
  have hcl : clsIn K C = some { name := nm, bases := bs, mro := .ref C :: bm, ns := N, qualname := q, hasDict := true, slotNames := sn, subclasses := sub, abstract := ab, collection := col, hasDel := false } := by unfold clsIn; rw [hC] <;> rfl
  have ne1 := T.ne1
  have nb : (fld == ("self" : Str)) = false := by simpa using ne1
  refine ks_codeAny_call_defAt (binds := [("self", .ref x), (fld, v)]) (body := iB fld txt j q1 q2 q3 q4 q5 q6 q7 q8 q9 q10) hroom (X _ _ ho) rfl hlim (codeRec_of X hcd) rfl (BindsTo.of_eq (T.binds _ _ _ _ _ _ _ _ _ _ _ _ _ _ _ _ _ _ _ _ _ _ _)) ?_ ?_ (fun h₁ hns k => ?_)
  · intro y hy
    simp only [iS, List.mem_cons, List.mem_nil_iff, or_false] at hy
    rcases hy with rfl | rfl | rfl | rfl <;> simp
  · intro y hy
    simp only [List.mem_cons, List.mem_nil_iff, or_false] at hy
    rcases hy with rfl | rfl
    · rfl
    · exact T.kin
  have X₁ : K.In h₁ := X.keeps k
  have hx₁ := k _ _ hx
  have hself : (fun y => ([((PySem.Str.ofString "self"), Value.ref x), (fld, v)] : List (Str × Value)).reverse.lookup y) ("self" : Str) = some (.ref x) := by
    show List.lookup ("self" : Str) [(fld, v), ((PySem.Str.ofString "self"), Value.ref x)] = _
    have : (("self" : Str) == fld) = false := by simpa using fun z => ne1 z.symm
    simp [List.lookup, this]
  have hfld : (fun y => ([((PySem.Str.ofString "self"), Value.ref x), (fld, v)] : List (Str × Value)).reverse.lookup y) fld = some v := by
    show List.lookup fld [(fld, v), ((PySem.Str.ofString "self"), Value.ref x)] = _
    simp [List.lookup]
  show wpAt (model prog w) (A.deeper (ksEnv qual (iS fld) s.heap.objs.size fI (.ref cda) cc)) (.func (iB fld txt j q1 q2 q3 q4 q5 q6 q7 q8 q9 q10) (ksEnv qual (iS fld) s.heap.objs.size fI (.ref cda) cc)) (execs (iB fld txt j q1 q2 q3 q4 q5 q6 q7 q8 q9 q10) (ksEnv qual (iS fld) s.heap.objs.size fI (.ref cda) cc)) _ _ _
  have he : eval (.Call (.Attribute (.Call (.Name "super" q1) [] [] q2) "__init__" q3) [.Constant (.str txt) j q4] [] q5) (ksEnv qual (iS fld) s.heap.objs.size fI (.ref cda) cc) = (do
      let ov ← attributeBase (.Call (.Name "super" q1) [] [] q2) "__init__" (ksEnv qual (iS fld) s.heap.objs.size fI (.ref cda) cc) (eval (.Call (.Name "super" q1) [] [] q2) (ksEnv qual (iS fld) s.heap.objs.size fI (.ref cda) cc))
      standAt q3.atName
      let (f, first) ← holding [ov] (getMethod ov "__init__" (L2.plainOf (.Call (.Name "super" q1) [] [] q2) (ksEnv qual (iS fld) s.heap.objs.size fI (.ref cda) cc)))
      callWith q5 f first (backTo q5 (starEach [.Constant (.str txt) j q4] (ksEnv qual (iS fld) s.heap.objs.size fI (.ref cda) cc))) []) := by
    show (attributeBase _ _ _ _ >>= fun ov => standAt _ >>= fun _ => methodCall _ _ _ _ _ ov _ _ _) = _
    congr 1
    funext ov
    congr 1
    funext _
    exact L2.mcall_line rfl hline
  refine ks_wpAt_execs_cons (ks_wpAt_Expr_any (ks_wpAt_MethodCall ?_ he))
  refine ks_wpAt_super_base (env := ksEnv qual (iS fld) s.heap.objs.size fI (.ref cda) cc) (ar := { arg := "self", annotation := none, pos := p1 }) T.kSup T.kCls (by decide) rfl (X₁ _ _ ho) rfl rfl rfl (X₁ _ _ hcode) rfl hvs hfile T.top ?_
  have hCc := X₁ _ _ hC
  refine ks_loadName_global rfl T.kSup (loadGlobal_builtin (env := ksEnv qual (iS fld) s.heap.objs.size fI (.ref cda) cc) (hG.keeps k) T.free (hB.keeps k) ((hbb _ (by decide +kernel)).trans (show bootBuiltins "super" = some (.type "super") by decide +kernel)) ⟨rfl, ?_⟩)
  refine wpAny_loadName_free rfl T.kCls rfl ⟨_, X₁ _ _ hcell, rfl⟩ ?_
  refine wpAny_loadName_local rfl rfl hns hself ?_
  refine ks_wpAny_isType_cls hCc rfl ⟨rfl, ?_⟩
  refine ks_wpAny_call_super hCc rfl hx₁ rfl (fun c e => nomatch e) (looks_mroIn X₁ T.self_) (fun h₂ hso k₂ => ?_)
  have X₂ : K.In h₂ := X₁.keeps k₂
  have hx₂ := k₂ _ _ hx₁
  have I₂ : InstAt h₂ x (excO C t0) C none := ⟨hx₂, rfl, rfl, trivial⟩
  have hin : Looks (model prog w) h₂ (isInstance (.ref x) (.type B)) true := I₂.type.andThen (looks_subIn X₂ veC)
  unfold ks_superIn at hsup
  rw [hcl] at hsup
  refine kxs_getMethod FB.kx hso (looks_opaque X₂ T.opq) (l₀ := .ref C :: bm) (fun A Q E s k q => wpAny_bind ((looks_clsIn X₂ hcl) A _ E s k (wpAny_pure q))) rfl X₂ hsup hin (ks_ne X₂ I₂ hcl) (by decide) ?_
  have k₃ : ∀ b o, h₂.get? b = some o → (h₂.push (kxs_mw ini x)).get? b = some o := fun b o e => Heap.get?_push_of_some _ e
  have hu : (h₂.push (kxs_mw ini x)).get? h₂.objs.size = some (kxs_mw ini x) := Heap.get?_push_at rfl rfl
  refine kxs_callWith (i := ini) (x := x) rfl (evalArgs_plain (Calls.spliced_cons (Calls.Constant_str (k := j) (pos := q4) (Calls.spliced_nil ⟨hu, ?_⟩))))
  refine call_mw FB hbm (k₃ _ _ (k₂ _ _ hCc)) (k₃ _ _ hx₂) hu (by rw [sizeLine_eq]; exact (by decide : 1 ≤ 16777216)) (fun h₄ t1 k₄ hx₄ => ?_)
  have k04 : ∀ b o, b ≠ x → h₁.get? b = some o → h₄.get? b = some o := fun b o hb e => k₄ b o hb (k₃ _ _ (k₂ _ _ e))
  have X₄ : K.In h₄ := fun a o e => k04 a o (fun z => by rw [z, hnx] at e; cases e) (X₁ a o e)
  have hxL : s.heap.objs.size ≠ x := Nat.ne_of_gt (Heap.lt_size hx)
  have hns₄ : h₄.Ns s.heap.objs.size (fun y => ([((PySem.Str.ofString "self"), Value.ref x), (fld, v)] : List (Str × Value)).reverse.lookup y) := by
    obtain ⟨o, es, ep, e, r⟩ := hns
    exact ⟨o, es, ep, k04 _ _ hxL e, r⟩
  -- self.fld = fld
  show wpAt (model prog w) _ _ (execs [.Assign [.Attribute (.Name "self" q7) fld q8] (.Name fld q9) q10] _) _ _ _
  refine ks_wpAt_execs_cons (ks_wpAt_Assign_Attr (wpAt_of_wpAny (wpAny_Name (wpAny_loadName_local rfl T.kin hns₄ hfld (wpAny_Name (wpAny_loadName_local rfl rfl hns₄ hself ?_) (by decide))) T.ne2)))
  refine set_plain X₄ (ox := excO C t1) (od := none) ⟨hx₄, rfl, rfl, trivial⟩ T.sa ?_
  refine b_osa FB X₄ hx₄ hcl (show refsT tail (.ref C :: bm) = true from hbm) rfl T.noN (fun h₅ tk₅ dx k₅ dn dne hx₅ hn₅ => ?_)
  have z : s.heap.objs.size ≤ h₄.objs.size := by
    obtain ⟨o, es, ep, e, r⟩ := hns₄
    exact Nat.le_of_lt (Heap.lt_size e)
  show wpAt (model prog w) _ _ (execs [] _) _ _ _
  exact wpAt_of_wpAny (wpAny_execs_nil (hq h₅ tk₅ dx t1 ⟨fun b o hb e => k₅ b o hb (k04 b o hb (k b o e)), hx₅, Nat.le_trans z dn, dne, hn₅⟩))
end
end KwX
end PySem
set_option Elab.async false
set_option linter.all false
set_option maxRecDepth 100000
namespace Kw
open PySem PySem.Spec PyProof.Rows L2
/-- a list (false), a tuple (true) -/
def Src (K : PySem.W.Frag) (k : Bool) (H : Hp) (a : Addr) (xs : List V) : Prop := match k with
  | true => SqT K H a xs
  | false => SqL K H a xs
def ItAt (k : Bool) (h : Heap) (it a : Addr) (i : Nat) : Prop := match k with
  | true => h.IsTupleIter it a i
  | false => h.IsListIter it a i
def Holds (k : Bool) (h : Heap) (a : Addr) (items : Array Value) : Prop := match k with
  | true => h.IsTuple a items
  | false => h.IsList a items
theorem draws_k {prog : Program} {w : World} {A : Around} (k : Bool) (hh : A.handled = none) (it a : Addr) (hne : a ≠ it) (items : Array Value) :
    Draws prog w A it [it, a] items.size (fun i v => items[i]? = some v) (fun i h => ItAt k h it a i ∧ Holds k h a items) := by
  cases k
  · exact Draws.list hh it a hne items
  · exact Draws.tuple hh it a hne items
def itO (k : Bool) (a : Addr) : Obj := match k with
  | true => { cls := .type "tuple_iterator", data := .fields #[.ref a, .int 0 0] }
  | false => { cls := .type "list_iterator", data := .fields #[.ref a, .int 0 0] }
theorem begins_k (k : Bool) (a : Addr) (items : Array Value) : Begins (.ref a) (itO k a) fun h => Holds k h a items := by
  cases k
  · exact begins_list a items
  · exact begins_tuple a items
theorem itAt_new {k : Bool} {h : Heap} {it a : Addr} (e : h.get? it = some (itO k a)) : ItAt k h it a 0 := by
  cases k
  · exact ⟨_, e, rfl, rfl⟩
  · exact ⟨_, e, rfl, rfl⟩
theorem ItAt.obj {k : Bool} {h : Heap} {it a : Addr} {i : Nat} (e : ItAt k h it a i) : ∃ o, h.get? it = some o ∧ ∀ v, o.data ≠ .cell v := by
  cases k
  · obtain ⟨o, h1, _, d⟩ := e
    exact ⟨o, h1, fun v q => by rw [d] at q; cases q⟩
  · obtain ⟨o, h1, _, d⟩ := e
    exact ⟨o, h1, fun v q => by rw [d] at q; cases q⟩
theorem ItAt.keep {k : Bool} {h h' : Heap} {it a : Addr} {i : Nat} (e : ItAt k h it a i) (q : ∀ o, h.get? it = some o → h'.get? it = some o) : ItAt k h' it a i := by
  cases k
  · obtain ⟨o, h1, r⟩ := e
    exact ⟨o, q _ h1, r⟩
  · obtain ⟨o, h1, r⟩ := e
    exact ⟨o, q _ h1, r⟩
section
variable {X : Cx} {pins : List (Addr × Obj)} {σ : L2.St} {H : Hp} {s : Shared}
theorem src_has {k : Bool} {a : Addr} {xs : List V} (I : Inv X pins σ H s) (h : Src X.K k H a xs) : ∃ its : List Value, Vals xs its ∧ Holds k s.heap a its.toArray := by
  cases k
  · obtain ⟨its, rv, p, _⟩ := I.list h
    exact ⟨its, rv, p.isList⟩
  · obtain ⟨its, rv, p, _⟩ := I.tuple h
    exact ⟨its, rv, p⟩
theorem src_inj {k : Bool} {a : Addr} {xs ys : List V} (I : Inv X pins σ H s) (h : Src X.K k H a xs) (h' : Src X.K k H a ys) : xs = ys := by
  cases k
  · exact I.list_inj h h'
  · exact I.tuple_inj h h'
theorem Holds.lt {k : Bool} {h : Heap} {a : Addr} {its : Array Value} (e : Holds k h a its) : a < h.objs.size := by
  cases k
  · obtain ⟨o, h1, _⟩ := e
    exact Heap.lt_size h1
  · obtain ⟨o, h1, _⟩ := e
    exact Heap.lt_size h1
end
set_option maxHeartbeats 1000000 in
theorem meets_enum1 {v : Value} {o : Obj} {H : Heap → Prop} (B : Begins v o H) :
    Meets (Builtin.«enumerate.__new__» ⟨[.type "enumerate", v], []⟩) (fun _ R s => H s.heap ∧
      R (.ok (.ret (.ref (s.heap.push o).objs.size))) { s with heap := (s.heap.push o).push { cls := .type "enumerate", data := .fields #[.none, .bool false, .ref s.heap.objs.size, rawInt 0, .none, .none] } }) :=
  .of_wp fun prog w A R s h => by
    obtain ⟨hp, g, d, tk, os⟩ := s; obtain ⟨h1, h⟩ := h
    have hsub := sub_enumerate
    have q1 : ∀ {A' : Around} {E : Value → Shared → Prop} {Q : Value → Shared → Prop}, Q (.ref hp.objs.size) ⟨hp.push o, g, d, tk, os⟩ → wpAny (model prog w) A' (pyIter v) Q E ⟨hp, g, d, tk, os⟩ :=
      fun q => B.iter prog w _ _ ⟨hp, g, d, tk, os⟩ _ h1 q
    wp_walk using q1
    refine wpAny_stack_any fun st => wpAny_pure ?_
    split
    · rename_i c _ _ _ _ _
      cases (c == Value.type "enumerate")
      · wp_walk using q1
        exact ⟨_, rfl, h⟩
      · wp_walk using q1
        exact ⟨_, rfl, h⟩
    · wp_walk using q1
      exact ⟨_, rfl, h⟩
theorem call_enum1 {prog : Program} {w : World} {A : Around} {E : Value → Shared → Prop} {s : Shared} {v : Value} {o : Obj} {H : Heap → Prop} {Q : Value → Shared → Prop} (B : Begins v o H) (h1 : H s.heap)
    (h : ∀ h', IsEnum h' (s.heap.objs.size + 1) s.heap.objs.size 0 .none → h'.get? s.heap.objs.size = some o → h'.objs.size = s.heap.objs.size + 2 →
      (∀ b o, s.heap.get? b = some o → h'.get? b = some o) → Q (.ref (s.heap.objs.size + 1)) { s with heap := h' }) :
    wpAny (model prog w) A (call (.type "enumerate") [v]) Q E s := by
  refine callType_new F.called_enumerate (by decide) (F.typeCall_enumerate_1 _) (F.newCall_enumerate_1 _) (fun obj => F.args_object_init_2 obj _) F.entry_enumerate_new
    (meets_enum1 B) ⟨h1, ?_⟩
  have hz : (s.heap.push o).objs.size = s.heap.objs.size + 1 := Heap.size_push ..
  show _ ∧ _
  rw [hz]
  have he : IsEnum ((s.heap.push o).push { cls := .type "enumerate", data := .fields #[.none, .bool false, .ref s.heap.objs.size, rawInt 0, .none, .none] }) (s.heap.objs.size + 1) s.heap.objs.size 0 .none := by
    have := Heap.get?_push_size (s.heap.push o) (o := { cls := .type "enumerate", data := .fields #[.none, .bool false, .ref s.heap.objs.size, rawInt 0, .none, .none] }) rfl
    rw [hz] at this; exact this
  exact ⟨⟨_, he, rfl⟩, h _ he (Heap.get?_push_of_some _ (Heap.get?_push_size _ B.free)) (by rw [Heap.size_push, hz]) fun b o x => Heap.get?_push_of_some _ (Heap.get?_push_of_some _ x)⟩
def Ieq (K : PySem.W.Frag) (k : Bool) (a : Addr) : It :=
  ⟨fun i H => ∃ (xs : List V) (x : V), Src K k H a xs ∧ xs[i]? = some x, fun i H v H' => ∃ T x, v = .ref T ∧ H T = none ∧ H' = upd H T (.tup [.int (i : Nat), x]) ∧ ∀ xs, Src K k H a xs → xs[i]? = some x, fun i H => ∃ xs : List V, Src K k H a xs ∧ xs.length = i⟩
theorem turn_eq {P : Program} {w : World} {K : PySem.W.Frag} {elts : List Expr} {kk : Nat} {tpos : Pos} {k : Bool} {a e it : Addr} (na : a ≠ it) (hne : e ≠ it) (hea : e ≠ a) :
    Turn P w K (.Tuple elts kk tpos) (Ieq K k a) [e, it] e (fun i h => (∃ old, IsEnum h e it ((i : Nat) : Int) old) ∧ ItAt k h it a i) where
  mem := by simp
  obj := fun i h st b hb => by
    obtain ⟨⟨old, he⟩, h1⟩ := st
    have e' : b = e ∨ b = it := by simpa using hb
    rcases e' with z | z
    · rw [z]; exact ⟨_, he, fun v q => nomatch q⟩
    · rw [z]; exact h1.obj
  keep := fun i h h' st k => let ⟨⟨old, he⟩, hi⟩ := st; ⟨⟨old, k e (by simp) _ he⟩, hi.keep fun o q => k it (by simp) o q⟩
  item := by
    intro X hP hw hK hc i pins s σ H E I hf st hg
    subst hP hw hK
    obtain ⟨⟨old, he⟩, hit⟩ := st
    obtain ⟨xs, x, hq, hx⟩ := hg
    obtain ⟨its, rv, p⟩ := src_has I hq
    obtain ⟨u, hu, ru⟩ := rv.get hx
    have hel : e < s.heap.objs.size := Heap.lt_size he
    have hil : it < s.heap.objs.size := by obtain ⟨_, q, _⟩ := hit.obj; exact Heap.lt_size q
    have lt1 : i < its.toArray.size := by simpa using (List.getElem?_eq_some_iff.mp hu).1
    refine wpAny_pyNext_enum_itemC (draws_k (prog := X.prog) (w := X.w) (A := X.A.in1) k (show X.A.in1.handled = none from I.ok.hd hc) it a na its.toArray) he ⟨hit, p⟩ lt1 hne (by simp; exact ⟨hne, hea⟩) fun v h' tk hv ho hst hT hsz hk => ?_
    obtain rfl : u = v := by rw [List.getElem?_toArray, hu] at hv; exact Option.some.inj hv
    refine ⟨_, rfl, wpAny_letOwnedTupleGo_enum (s := { s with heap := h', toks := tk + 1 }) ho fun h'' he' sb => ?_⟩
    have hT2 : h''.get? s.heap.objs.size = some { cls := .type "tuple", data := .seq #[.int i tk, u] } := (sb.2 _ (Nat.ne_of_gt hel)).trans hT
    have new : ObjOk X.prog X.w (upd H s.heap.objs.size (.tup [.int (i : Nat), x])) h'' s.heap.objs.size (.tup [.int (i : Nat), x]) :=
      ⟨by show 2 ≤ sizeLine; decide, [.int i tk, u], .cons ⟨_, rfl⟩ (.cons ru .nil), ⟨_, hT2, rfl, _, rfl⟩⟩
    have I1 : Inv X pins σ (upd H s.heap.objs.size (.tup [.int (i : Nat), x])) { s with heap := h'', toks := tk + 1 } :=
      I.turnedNew (ch := [e, it]) (fun b ob hb q => (sb.2 b (fun z => hb (by simp [z]))).trans (hk b ob (fun z => hb (by simp [z])) (fun z => hb (by simp [z])) q)) hf (Nat.le_refl _) new
    refine ⟨.ref s.heap.objs.size, _, I1, rfl, ⟨_, x, rfl, I.hok.fresh (Nat.le_refl _), rfl, fun ys hy => by rw [src_inj I hy hq]; exact hx⟩, ⟨⟨u, ?_⟩, hst.1.keep fun o q => (sb.2 it (Ne.symm hne)).trans q⟩, fun b hb => ?_⟩
    · have e1 : ((i + 1 : Nat) : Int) = (i : Int) + 1 := by omega
      rw [e1]; exact he'
    · have hb' : b < s.heap.objs.size := by
        have e' : b = e ∨ b = it := by simpa using hb
        rcases e' with z | z
        · rw [z]; exact hel
        · rw [z]; exact hil
      rw [upd_ne (Nat.ne_of_lt hb')]
      exact (hf b hb).1
  done := by
    intro X hP hw hK hc i pins s σ H E I hf st hg
    subst hP hw hK
    obtain ⟨⟨old, he⟩, hit⟩ := st
    obtain ⟨xs, hq, hx⟩ := hg
    obtain ⟨its, rv, p⟩ := src_has I hq
    obtain ⟨f0, f1, f2, f3, f4, f5⟩ := hf it (by simp)
    have hl := rv.length
    have hi : i = its.toArray.size := by simp; omega
    subst hi
    exact wpAny_pyNext_enum_endD (draws_k (prog := X.prog) (w := X.w) (A := X.A.in1) k (show X.A.in1.handled = none from I.ok.hd hc) it a na its.toArray) he ⟨hit, p⟩ fun h' eb => ⟨rfl, I.turned (t' := s.toks) (fun b o hb q => eb b o hb q) f0 f1 f3 f4 f5⟩
  self := fun A i s Q E st h => let ⟨⟨_, he⟩, _⟩ := st; wpAny_pyIter_enum he h
def iEq' (K : PySem.W.Frag) (ta : TA) : TI := fun σ H R => ta σ H fun vs H1 => ∃ a xs k, vs = [.ref a] ∧ Src K k H1 a xs ∧ R (Ieq K k a) H1
theorem pi_eq' {X : Cx} {e : Expr} {ta : TA} {p pos tpos : Pos} {elts : List Expr} {kk : Nat} (hg : Gl X "enumerate") (hm : X.mg "enumerate" = none) (ha : PA X [e] ta) (hs : starEach [e] X.env = [(false, eval e X.env)] := by rfl) :
    PI X (.Tuple elts kk tpos) (.Call (.Name "enumerate" p) [e] [] pos) (iEq' X.K ta) := by
  refine ⟨fun pins s σ H R I h => ?_⟩
  refine Call_ (ld_blt I hg hm boot_enumerate (PyProof.Rows.callWith_type1 (thn (ha.run pos pins s σ H _ I h) fun us s1 ⟨vs, H1, I1, r1, q1⟩ => ?_) hs rfl))
  obtain ⟨a, xs, k, ex, hq, q⟩ := q1
  subst ex
  cases r1 with
  | cons r rr =>
    cases rr
    cases r
    obtain ⟨its, rv, p'⟩ := src_has I1 hq
    have la := p'.lt
    refine call_enum1 (begins_k k a its.toArray) p' fun h' he hit hsz hk => wpAny_pyIter_enum he ?_
    have I2 : Inv X pins σ H1 { s1 with heap := h' } := I1.kept (t' := s1.toks) hk
    refine ⟨s1.heap.objs.size + 1, [s1.heap.objs.size + 1, s1.heap.objs.size], _, _, H1, rfl, I2, turn_eq (Nat.ne_of_lt la) (Nat.succ_ne_self _) (Nat.ne_of_gt (Nat.lt_succ_of_lt la)), ⟨⟨.none, he⟩, itAt_new hit⟩, fun b hb => ?_, q⟩
    have e' : b = s1.heap.objs.size + 1 ∨ b = s1.heap.objs.size := by simpa using hb
    have hle : s1.heap.objs.size ≤ b := by
      rcases e' with z | z
      · rw [z]; exact Nat.le_add_right _ _
      · rw [z]; exact Nat.le_refl _
    exact I1.fpOk hle (I1.hok.fresh hle)
/-- the items of zip, of enumerate: pairs -/
def zipD : List D → List D → List D
  | x :: xs, y :: ys => .tup [x, y] :: zipD xs ys
  | _, _ => []
def enumD : Nat → List D → List D
  | _, [] => []
  | n, x :: xs => .tup [.int (n : Int), x] :: enumD (n + 1) xs
section
variable {K : PySem.W.Frag} {mg : Str → Option Value} {T : List (Addr × Str)} {w w0 : Wd} {μ : Mem} {H : Hp}
/-- what is walked: it stands whatever comes -/
def SrcW (K : PySem.W.Frag) (w0 : Wd) (k : Bool) (a : Addr) (vs : List V) : Prop := match k with
  | true => SqT K w0.φ a vs
  | false => SqL K w0.φ a vs ∨ w0.fr a = some (.lst vs)
theorem SrcW.src {k : Bool} {a : Addr} {vs : List V} (h : SrcW K w0 k a vs) (le : w0.Lw w) (r : RelM K mg T w μ H) : Src K k H a vs := by
  cases k
  · exact scr_H r (h.elim (fun h => .inl (sqL_mono le.φ h)) fun h => .inr (by rw [le.fr]; exact h))
  · exact sqT_mono r.φ (sqT_mono le.φ h)
end
def iZip2 (mr : AM) : IM := fun δ μ => (mr δ μ).bind fun xs μ1 => match xs with
  | [x, y] => match seqV x, seqV y with
    | some a, some b => .ok (zipD a b) μ1
    | _, _ => .stuck
  | _ => .stuck
def iEnu (mr : AM) : IM := fun δ μ => (mr δ μ).bind fun xs μ1 => match xs with
  | [x] => match seqV x with
    | some a => .ok (enumD 0 a) μ1
    | none => .stuck
  | _ => .stuck
end Kw
set_option Elab.async false
set_option linter.all false
set_option maxRecDepth 100000
set_option maxHeartbeats 2000000
namespace Kw
open PySem PySem.Spec PyProof.Rows L2
section
variable {K : PySem.W.Frag} {mg : Str → Option Value} {S : SI} {vs : List Nat}
theorem nmTgs_consG {gV : TG} {g : GM} {gVs : TGs} {gs : GsM} (h1 : NmTg K mg S vs gV g) (h2 : NmTgs K mg S vs gVs gs) : NmTgs K mg S vs (gCons gV gVs) (gsCons g gs) := fun w δ μ d v σ H Q δ' μ' rs rm rd e h => by
  unfold gsCons at e
  split at e
  · next d r =>
    cases rd with
    | @cons _ _ u us r1 r2 =>
      refine ⟨u, us, rfl, ?_⟩
      cases eg : g d δ μ with
      | nx δ1 μ1 =>
        rw [eg] at e
        refine h1 w δ μ d u σ H _ δ1 μ1 rs rm r1 eg fun σ1 a b c => ?_
        subst c
        exact h2 w δ1 μ1 r us σ1 H Q δ' μ' a rm r2 e fun σ' a' b' c' => h σ' a' (b'.trans b) c'
      | _ => rw [eg] at e; cases e
  · cases e
end
def eChn (g g' : D → D → Mem → Option D) (ma mb mc : EM) : EM := fun δ μ => (ma δ μ).bind fun x μ1 => (mb δ μ1).bind fun y μ2 => match g x y μ2 with
  | some (.bl k) => if k = true then (mc δ μ2).bind fun z μ3 => oOf (g' y z μ3) μ3 else .ok (.bl false) μ2
  | _ => .stuck
def repD (k : Int) (xs : List D) : List D := (List.replicate k.toNat xs).flatten
/-- a list times a number, as a place -/
def repL : D → D → Option (List D)
  | .lst xs, .int k => if -9223372036854775808 ≤ k ∧ k < 9223372036854775808 ∧ xs.length * k.toNat ≤ sizeLine then some (repD k xs) else none
  | _, _ => none
def eNewRep (ma mb : EM) : EM := fun δ μ => (ma δ μ).bind fun x μ1 => (mb δ μ1).bind fun y μ2 => match repL x y with
  | some ys => .ok (.loc μ2.length) (μ2 ++ [.lst ys])
  | none => .stuck
end Kw
set_option Elab.async false
set_option linter.all false
set_option maxRecDepth 100000
namespace Kw
open PySem PySem.Spec PyProof.Rows L2
/-- what comes next: none: nothing is known; some none: the end -/
abbrev Nx := Nat → Mem → Option (Option D)
def WalksN (K : PySem.W.Frag) (mg : Str → Option Value) (T : List (Addr × Str)) (w0 : Wd) (nx : Nx) (J : It) : Prop := ∀ w μ H i, w0.Lw w → RelM K mg T w μ H →
  (nx i μ = some none → J.stop i H) ∧ ∀ d, nx i μ = some (some d) → J.go i H ∧ ∀ x H', J.yld i H x H' → ∃ w1, w.Le w1 ∧ RelM K mg T w1 μ H' ∧ RelD K mg w1 d x
abbrev NM := Sv → Mem → Out (Nx × Nat)
abbrev TNm (X : Cx) (S : SI) (W : WX) (m : NM) : TI := tM X.K X.mg S W (fun w (p : Nx × Nat) J => WalksN X.K X.mg S.T w p.1 J) m
/-- items that stand -/
def nxL (items : List D) : Nx := fun i _ => if i ≤ items.length then some items[i]? else none
def nxEnu (l : Nat) : Nx := fun i μ => match μ[l]? with
  | some (.lst xs) => if i ≤ xs.length then some (xs[i]?.map fun x => .tup [.int (i : Nat), x]) else none
  | _ => none
def nEnu (mr : AM) : NM := fun δ μ => (mr δ μ).bind fun xs μ1 => match xs with
  | [.loc l] => match μ1[l]? with
    | some (.lst xs) => .ok (nxEnu l, xs.length + 1) μ1
    | _ => .stuck
  | _ => .stuck
def lcN (nx : Nx) (g : GM) (mt : TM) (me : EM) (δ : Sv) : Nat → Nat → Mem → Out (List D)
  | 0, _, _ => .stuck
  | n + 1, i, μ => match nx i μ with
    | none => .stuck
    | some none => .ok [] μ
    | some (some d) => match g d δ μ with
      | .nx δ1 μ1 => match mt δ1 μ1 with
        | .ok true μ2 => match me δ1 μ2 with
          | .ok y μ3 => match lcN nx g mt me δ n (i + 1) μ3 with
            | .ok ys μ4 => .ok (y :: ys) μ4
            | _ => .stuck
          | _ => .stuck
        | .ok false μ2 => lcN nx g mt me δ n (i + 1) μ2
        | _ => .stuck
      | _ => .stuck
def eLcN (pl : Bool) (mi : NM) (g : GM) (mt : TM) (me : EM) (vs : List Nat) : EM := fun δ μ => (mi δ μ).bind fun p μ1 => match lcN p.1 g mt me (wipeD δ vs) p.2 0 μ1 with
  | .ok ys μ2 => if ys.length ≤ sizeLine then (if pl = true then .ok (.loc μ2.length) (μ2 ++ [.lst ys]) else .ok (.lst ys) μ2) else .stuck
  | _ => .stuck
section
variable {K : PySem.W.Frag} {mg : Str → Option Value} {T : List (Addr × Str)} {w w0 : Wd} {μ : Mem} {H : Hp}
theorem WalksN.of {items : List D} {J : It} (h : Walks K mg T w0 items J) : WalksN K mg T w0 (nxL items) J := fun w μ H i le rm => by
  obtain ⟨k1, k2⟩ := h w μ H i le rm
  refine ⟨fun e => k2 ?_, fun d e => k1 d ?_⟩
  · unfold nxL at e
    split at e
    · next hi =>
      have := List.getElem?_eq_none_iff.mp (Option.some.inj e)
      omega
    · cases e
  · unfold nxL at e
    split at e
    · exact Option.some.inj e
    · cases e
theorem walksN_enu {l : Nat} (hl : l < w0.n) : WalksN K mg T w0 (nxEnu l) (Ieq K false (w0.ρ l)) := fun w μ H i le rm => by
  have hρ := le.ρ l hl
  unfold nxEnu
  split
  · next xs hx =>
    obtain ⟨vs, h1, h2⟩ := rm.lst hx
    rw [hρ] at h1
    have len := h2.length
    refine ⟨fun e => ?_, fun d e => ?_⟩
    · split at e
      · next hi =>
        have := List.getElem?_eq_none_iff.mp (Option.map_eq_none_iff.mp (Option.some.inj e))
        exact ⟨vs, .inl (.inl h1), by omega⟩
      · cases e
    · split at e
      · obtain ⟨y, hy, ey⟩ := Option.map_eq_some_iff.mp (Option.some.inj e)
        subst ey
        obtain ⟨v, hv, rv⟩ := h2.get hy
        refine ⟨⟨vs, v, .inl (.inl h1), hv⟩, fun z H' ⟨A, u', ez, hA, eH, f1⟩ => ?_⟩
        have e1 := f1 vs (.inl (.inl h1))
        rw [hv] at e1; cases e1
        subst ez; subst eH
        exact ⟨w.lay A (.tup [.int (i : Nat), v]), rm.lay_le hA _, rm.lay hA (fun ps => nofun), .tup (.inl (.inl upd_same)) (RelDs.mono (rm.lay_le hA _) (.cons (.int _) (.cons rv .nil)))⟩
      · cases e
  · exact ⟨(fun e => nomatch e), (fun d e => nomatch e)⟩
/-- what was being made becomes a place -/
def Wd.born (w : Wd) (p : Addr) (g : Hp) : Wd := { w with n := w.n + 1, ρ := fun l => if l = w.n then p else w.ρ l, gr := g }
theorem RelM.bornO (r : RelM K mg T w μ H) {p : Addr} {o : HO} {b : Ob} {g : Hp} (hp : w.gr p = some o) (rb : RelOb K mg w b (some o)) (ng : b ≠ .gone) (nk : ∀ kvs, b ≠ .lkd kvs) (hg : ∀ a, a ≠ p → g a = w.gr a) (gp : g p = none) : w.Lw (w.born p g) ∧ RelM K mg T (w.born p g) (μ ++ [b]) H := by
  have hH := r.gr p _ hp
  obtain ⟨f1, f2⟩ := r.dg p _ hp
  have lw : w.Lw (w.born p g) := ⟨Nat.le_succ _, fun l h => if_neg (Nat.ne_of_lt h), fun _ _ h => h, rfl, rfl⟩
  have gg : ∀ {a u}, g a = some u → a ≠ p ∧ w.gr a = some u := fun {a u} h => by
    have : a ≠ p := fun e => by rw [e, gp] at h; cases h
    exact ⟨this, by rw [← hg a this]; exact h⟩
  have old : ∀ l, l < w.n → (w.born p g).ρ l = w.ρ l := fun l h => if_neg (Nat.ne_of_lt h)
  have apart : ∀ l, l < w.n → w.ρ l ≠ p := fun l hl z => by
    have hl' : l < μ.length := r.n ▸ hl
    have q := r.ob l μ[l] (List.getElem?_eq_getElem hl')
    by_cases ng : μ[l] = .gone
    · obtain ⟨u, hu⟩ := r.gn l (by rw [List.getElem?_eq_getElem hl', ng])
      rw [z, f1] at hu; cases hu
    · have := (q.2 ng).2.2
      rw [z, hp] at this; cases this
  refine ⟨lw, ?_, r.φ, r.fr, fun a u h => r.gr a u (gg h).2, r.dj, fun a u h => r.dg a u (gg h).2, fun l c hc => ?_, fun l hl => ?_, fun l l' h h' e => ?_, r.tabs, ⟨fun a u z => ⟨(r.lo.at_ a u z).1, ?_, (r.lo.at_ a u z).2.2⟩, fun l c hl hg hk => ?_, fun l kvs hl => ?_⟩, fun a ps => ⟨(r.nt a ps).1, (r.nt a ps).2.1, fun z => (r.nt a ps).2.2.1 (gg z).2, fun f z => (r.nt a ps).2.2.2 f (gg z).2⟩⟩
  · show w.n + 1 = _
    simp [r.n]
  · by_cases e : l = w.n
    · subst e
      rw [r.n, List.getElem?_append_right (Nat.le_refl _)] at hc
      simp at hc
      subst hc
      rw [show (w.born p g).ρ w.n = p from if_pos rfl, hH]
      exact ⟨rb.monoW lw, fun _ => ⟨f1, f2, gp⟩⟩
    · have hl : l < μ.length := by
        have := (List.getElem?_eq_some_iff.mp hc).1
        simp at this
        have := r.n
        omega
      rw [List.getElem?_append_left hl] at hc
      obtain ⟨h1, h2⟩ := r.ob l c hc
      have hn : l < w.n := by rw [r.n]; exact hl
      rw [old l hn]
      refine ⟨h1.monoW lw, fun ng => ⟨(h2 ng).1, (h2 ng).2.1, ?_⟩⟩
      show g (w.ρ l) = none
      rw [hg _ (apart l hn)]
      exact (h2 ng).2.2
  · by_cases e : l < μ.length
    · rw [List.getElem?_append_left e] at hl
      obtain ⟨u, hu⟩ := r.gn l hl
      refine ⟨u, ?_⟩
      show w.φ ((w.born p g).ρ l) = some u
      rw [old l (by have := r.n; omega)]
      exact hu
    · rw [List.getElem?_append_right (by omega)] at hl
      cases k : l - μ.length with
      | zero => rw [k] at hl; cases hl; exact absurd rfl ng
      | succ n => rw [k] at hl; cases hl
  · have h1 : l < w.n + 1 := h
    have h2 : l' < w.n + 1 := h'
    by_cases e1 : l = w.n
    · by_cases e2 : l' = w.n
      · rw [e1, e2]
      · rw [show (w.born p g).ρ l = p from if_pos e1, old l' (by omega)] at e
        exact absurd e.symm (apart l' (by omega))
    · by_cases e2 : l' = w.n
      · rw [old l (by omega), show (w.born p g).ρ l' = p from if_pos e2] at e
        exact absurd e (apart l (by omega))
      · rw [old l (by omega), old l' (by omega)] at e
        exact r.inj l l' (by omega) (by omega) e
  · show g a = none
    by_cases e : a = p
    · rw [e]; exact gp
    · rw [hg a e]; exact (r.lo.at_ a u z).2.1
  · show w.lk ((w.born p g).ρ l) = none
    by_cases e : l < μ.length
    · rw [List.getElem?_append_left e] at hl
      rw [old l (by rw [r.n]; exact e)]
      exact r.lo.ln l c hl hg hk
    · have e2 : l = w.n := by
        have := (List.getElem?_eq_some_iff.mp hl).1
        simp at this
        have := r.n
        omega
      rw [show (w.born p g).ρ l = p from if_pos e2]
      cases z : w.lk p with
      | none => rfl
      | some u => have := (r.lo.at_ p u z).2.1; rw [hp] at this; cases this
  · by_cases e : l < μ.length
    · rw [List.getElem?_append_left e] at hl
      rw [old l (by rw [r.n]; exact e)]
      exact r.lo.lo l kvs hl
    · rw [List.getElem?_append_right (by omega)] at hl
      cases k : l - μ.length with
      | zero => rw [k] at hl; cases hl; exact absurd rfl (nk kvs)
      | succ n => rw [k] at hl; cases hl
theorem RelM.born (r : RelM K mg T w μ H) {p : Addr} {us : List V} {ds : List D} {g : Hp} (hp : w.gr p = some (.lst us)) (rd : RelDs K mg w ds us) (hg : ∀ a, a ≠ p → g a = w.gr a) (gp : g p = none) : w.Lw (w.born p g) ∧ RelM K mg T (w.born p g) (μ ++ [.lst ds]) H :=
  r.bornO hp (.lst rd) nofun nofun hg gp
end
section
variable {X : Cx} {S : SI} {W : WX} {elt tg iter a : Expr} {ifs : List Expr} {scope : Scope} {own : List (Str × Nat)} {pos p : Pos} {mi : NM} {mf : IM} {g : GM} {gV : TG} {mt : TM} {me ma : EM} {mr : AM} {pl : Bool} {elts : List Expr} {kk : Nat} {tpos : Pos}
theorem tLcN_of {σ : L2.St} {H : Hp} {Q : VK} {vs : List Nat} (hn : NmTg X.K X.mg S vs gV g) (h : tM X.K X.mg S W (RelD X.K X.mg) (eLcN pl mi g mt me vs) σ H Q) : tLc (TNm X S W mi) gV (TTm X S W0 mt) (TEm X S W0 me) vs σ H Q := by
  obtain ⟨w, δ, μ, h⟩ := h
  refine ⟨w, δ, μ, (At.bind h).mono fun J H1 ⟨w1, μ1, ⟨nx, fuel⟩, le1, wk, h1⟩ => ?_⟩
  have rs1 := h1.1
  have rm1 := h1.2.1
  have h3 := h1.2.2
  simp only at wk h3
  cases e : lcN nx g mt me (wipeD δ vs) fuel 0 μ1 with
  | stuck => rw [e] at h3; exact h3.elim
  | exc x μ' => rw [e] at h3; exact h3.elim
  | ok ys μ2 =>
    rw [e] at h3
    simp only at h3
    split at h3
    case isFalse => exact h3.elim
    case isTrue hsz =>
    intro D hD
    obtain ⟨f1, f2, fg, f3⟩ := rm1.free hD
    refine ⟨fun i m H => ∃ (w : Wd) (μ : Mem) (acc : List Kw.D × List V) (zs : List Kw.D), w1.Lw w ∧ w.gr = upd w1.gr D (.lst acc.2) ∧ RelDs X.K X.mg w acc.1 acc.2 ∧ RelM X.K X.mg S.T w μ H ∧ lcN nx g mt me (wipeD δ vs) m i μ = .ok zs μ2 ∧ ys = acc.1 ++ zs, ⟨fuel, w1.grow D (.lst []), μ1, ([], []), ys, w1.grow_lw D _, rfl, .nil, rm1.grow hD _, e, rfl⟩, ?_⟩
    rintro i m H ⟨w2, μ3, ⟨ds, us⟩, zs, lw, hgr, racc, rm, hz, rfl⟩
    simp only at hgr racc hz
    obtain ⟨k2, k1⟩ := wk w2 μ3 H i lw rm
    have hgD : w2.gr D = some (.lst us) := by rw [hgr, upd_same]
    cases m with
    | zero => cases hz
    | succ m =>
    unfold lcN at hz
    cases en : nx i μ3 with
    | none => rw [en] at hz; cases hz
    | some o =>
    rw [en] at hz
    cases o with
    | some d =>
      right
      simp only at hz
      obtain ⟨go, yl⟩ := k1 _ en
      refine ⟨go, fun H' => ∃ (w : Wd) (μ : Mem) (acc : List Kw.D × List V) (zs' : List Kw.D), w1.Lw w ∧ w.gr = upd w1.gr D (.lst acc.2) ∧ RelDs X.K X.mg w acc.1 acc.2 ∧ RelM X.K X.mg S.T w μ H' ∧ lcN nx g mt me (wipeD δ vs) m (i + 1) μ = .ok zs' μ2 ∧ ds ++ zs = acc.1 ++ zs', fun H' hN => ⟨m, Nat.lt_succ_self m, hN⟩, fun x H' hy => ?_⟩
      obtain ⟨w3, le3, rm3, rd⟩ := yl x H' hy
      have lw3 := lw.trans le3.lw
      have rs3 : RelSv X.K X.mg S w3 (wipeD δ vs) (L2.wipe σ vs) := (rs1.wipe vs).monoW lw3
      cases eg : g d (wipeD δ vs) μ3 with
      | nx δ4 μ4 =>
        rw [eg] at hz
        simp only at hz
        refine hn w3 _ μ3 d x _ H' _ δ4 μ4 rs3 rm3 rd eg fun σ' rs4 hw hμ => ?_
        subst hμ
        refine ⟨hw.trans (wipe_wipe σ vs), w3, δ4, μ4, rs4, rm3, ?_⟩
        cases et : mt δ4 μ4 with
        | ok b μ5 =>
          rw [et] at hz
          intro w5 b' H5 le5 rm5 hb
          cases hb
          have hgr5 : w5.gr = upd w1.gr D (.lst us) := by rw [le5.gr, le3.gr]; exact hgr
          cases b with
          | true =>
            simp only at hz
            rw [if_pos rfl]
            refine ⟨w5, δ4, μ5, rs4.mono le5, rm5, ?_⟩
            cases ee : me δ4 μ5 with
            | ok y μ6 =>
              rw [ee] at hz
              simp only at hz
              intro w6 v H6 le6 rm6 ry
              cases el : lcN nx g mt me (wipeD δ vs) m (i + 1) μ6 with
              | ok zs' μ7 =>
                rw [el] at hz
                cases hz
                have hgr6 : w6.gr = upd w1.gr D (.lst us) := by rw [le6.gr]; exact hgr5
                have hg6 : w6.gr D = some (.lst us) := by rw [hgr6, upd_same]
                have racc6 : RelDs X.K X.mg w6 ds us := ((racc.mono le3).mono le5).mono le6
                refine ⟨us, rm6.gr D _ hg6, ?_, w6.grow D (.lst (us ++ [v])), μ6, (ds ++ [y], us ++ [v]), zs', ?_, ?_, ?_, rm6.regrow hg6 rfl _, el, by simp⟩
                · have l1 := racc.length
                  have l2 := hsz
                  simp only [List.length_append, List.length_cons] at l2
                  omega
                · exact ((lw3.trans le5.lw).trans le6.lw).trans (w6.grow_lw D _)
                · show upd w6.gr D _ = _
                  rw [hgr6]
                  funext a
                  by_cases ha : a = D
                  · subst ha; rw [upd_same, upd_same]
                  · rw [upd_ne ha, upd_ne ha, upd_ne ha]
                · exact RelDs.monoW (w6.grow_lw D _) (racc6.append (.one ry))
              | exc x μ' => rw [el] at hz; cases hz
              | stuck => rw [el] at hz; cases hz
            | exc x μ' => rw [ee] at hz; cases hz
            | stuck => rw [ee] at hz; cases hz
          | false =>
            simp only at hz
            rw [if_neg (by decide)]
            exact ⟨w5, μ5, (ds, us), zs, lw3.trans le5.lw, hgr5, (racc.mono le3).mono le5, rm5, hz, rfl⟩
        | exc x μ' => rw [et] at hz; cases hz
        | stuck => rw [et] at hz; cases hz
      | _ => rw [eg] at hz; cases hz
    | none =>
      left
      refine ⟨k2 en, ?_⟩
      cases hz
      rw [List.append_nil] at h3
      have hg' : ∀ a, a ≠ D → w1.gr a = w2.gr a := fun a ha => by rw [hgr, upd_ne ha]
      cases pl with
      | false =>
        rw [if_neg (by decide)] at h3
        have rdone := rm.done (g := w1.gr) hgD hg' fg (fun _ => nofun)
        refine h3 (w2.done D (.lst us) w1.gr) _ H ⟨lw.n, lw.ρ, fun a o ha => ?_, lw.fr, rfl, lw.lk⟩ rdone (.lst upd_same (RelDs.monoW ?_ racc))
        · have : a ≠ D := fun z => by rw [z, f1] at ha; cases ha
          show upd w2.φ D _ a = _
          rw [upd_ne this]
          exact lw.φ a o ha
        · refine ⟨Nat.le_refl _, fun _ _ => rfl, fun a o ha => ?_, rfl, rfl⟩
          have : a ≠ D := fun z => by
            have := (rm.dg D _ hgD).1
            rw [← z, ha] at this; cases this
          show upd w2.φ D _ a = _
          rw [upd_ne this]
          exact ha
      | true =>
        rw [if_pos rfl] at h3
        obtain ⟨lb, rb⟩ := rm.born hgD racc hg' fg
        have rl := RelD.loc (K := X.K) (mg := X.mg) (w := w2.born D w1.gr) (l := μ2.length) (by rw [← rm.n]; exact Nat.lt_succ_self _)
        rw [show (w2.born D w1.gr).ρ μ2.length = D by rw [← rm.n]; exact if_pos rfl] at rl
        exact h3 (w2.born D w1.gr) _ H ⟨Nat.le_trans lw.n (Nat.le_succ _), fun l hl => ((lw.trans lb).ρ l hl), lw.φ, lw.fr, rfl, lw.lk⟩ rb rl
theorem pi_nEnu (hg : Gl X "enumerate") (hm : X.mg "enumerate" = none) (ha : PA X [a] (TAm X S W mr)) (hs : starEach [a] X.env = [(false, eval a X.env)] := by rfl) :
    PI X (.Tuple elts kk tpos) (.Call (.Name "enumerate" p) [a] [] pos) (TNm X S W <| nEnu mr) := PIi (pi_eq' hg hm ha hs) fun σ H R ⟨w, δ, μ, h⟩ => ⟨w, δ, μ, (At.bind h).mono fun v H1 ⟨w1, μ1, d, le, rd, h1⟩ => by
  split at h1
  · next l =>
    split at h1
    · next xs hx =>
      obtain ⟨vs, h2, h4⟩ := h1.2.1.lst hx
      obtain ⟨u, rfl, ru⟩ := rd.one1
      cases ru with
      | loc hl => exact ⟨_, vs, false, rfl, .inl (.inl h2), h1.2.2 w1 _ H1 (Wd.Le.refl _) h1.2.1 (walksN_enu hl)⟩
    · exact h1.2.2.elim
  · exact h1.2.2.elim⟩
theorem pe_lcN (hc : X.calm = true) (hN : X.N.Nodup) (hi : PI X tg iter (TNm X S W mi)) (ok : BlkOk X.N X.env.scope scope own) (hn : NmTg X.K X.mg S (own.map (·.2)) gV g)
    (hg : ∀ (s : Shared) (H : Hp) (C : Addr) (cl : List (Str × Addr)) (fp : List Addr), PG (X.blk s H scope (compEnvC scope cl C X.env) fp) tg gV) (ht : ∀ (s : Shared) (H : Hp) (C : Addr) (cl : List (Str × Addr)) (fp : List Addr), PTs (X.blk s H scope (compEnvC scope cl C X.env) fp) ifs (TTm X S W0 mt))
    (he : ∀ (s : Shared) (H : Hp) (C : Addr) (cl : List (Str × Addr)) (fp : List Addr), PE (X.blk s H scope (compEnvC scope cl C X.env) fp) elt (TEm X S W0 me)) (hs : ∀ x, foldedSetIterable iter X.env x = pure x := by intro _; rfl) :
    PE X (.ListComp elt [⟨tg, iter, ifs, 0⟩] scope pos) (TEm X S W <| eLcN pl mi g mt me (own.map (·.2))) :=
  PEi (pe_lc hc hN hi ok hg ht he hs) fun σ H Q h => tLcN_of hn h
end
end Kw
set_option Elab.async false
set_option linter.all false
set_option maxRecDepth 100000
namespace Kw
open PySem PySem.Spec PyProof.Rows L2
theorem lcL_map {α : Type} {e : α → D} {me : EM} {δ : Sv} {μ : Mem} {f : α → D} {i : Nat} : ∀ (xs : List α), (∀ a ∈ xs, me (δ.set i (some (e a))) μ = .ok (f a) μ) → lcL (gNm i) tYesM me δ (xs.map e) μ = .ok (xs.map f) μ
  | [], _ => rfl
  | a :: xs, h => by
    have ih := lcL_map xs fun b hb => h b (List.mem_cons_of_mem _ hb)
    have h0 := h a List.mem_cons_self
    simp only [List.map_cons, lcL, gNm_run, tYes_run, h0, ih]
theorem lcL_filt {α : Type} {e : α → D} {mt : TM} {me : EM} {δ : Sv} {μ : Mem} {t : α → Bool} {f : α → D} {i : Nat} : ∀ (xs : List α), (∀ a ∈ xs, mt (δ.set i (some (e a))) μ = .ok (t a) μ ∧ (t a = true → me (δ.set i (some (e a))) μ = .ok (f a) μ)) → lcL (gNm i) mt me δ (xs.map e) μ = .ok ((xs.filter t).map f) μ
  | [], _ => rfl
  | a :: xs, h => by
    have ih := lcL_filt xs fun b hb => h b (List.mem_cons_of_mem _ hb)
    obtain ⟨h0, h1⟩ := h a List.mem_cons_self
    cases ht : t a with
    | true =>
      have h1 := h1 ht
      simp only [List.map_cons, lcL, gNm_run, h0, ht, h1, ih, List.filter_cons, if_true]
    | false => simp only [List.map_cons, lcL, gNm_run, h0, ht, ih, List.filter_cons, if_neg Bool.false_ne_true]
/-- a comprehension over a place, where nothing changes -/
theorem lcN_map {α : Type} {e : Nat → α → D} {nx : Nx} {g : GM} {mt : TM} {me : EM} {δ : Sv} {μ : Mem} {t : Nat → α → Bool} {f : Nat → α → D} {n : Nat} (he : nx n μ = some none) : ∀ (xs : List α) (k m : Nat), k + xs.length = n → xs.length < m → (∀ j a, xs[j]? = some a → nx (k + j) μ = some (some (e (k + j) a)) ∧ ∃ δ', g (e (k + j) a) δ μ = .nx δ' μ ∧ mt δ' μ = .ok (t (k + j) a) μ ∧ (t (k + j) a = true → me δ' μ = .ok (f (k + j) a) μ)) →
    lcN nx g mt me δ m k μ = .ok (((xs.zipIdx k).filter fun p => t p.2 p.1).map fun p => f p.2 p.1) μ
  | [], k, m, h, hm, _ => by
    cases m with
    | zero => simp at hm
    | succ m =>
      have : k = n := by simpa using h
      subst this
      simp [lcN, he]
  | a :: xs, k, m, h, hm, hs => by
    cases m with
    | zero => simp at hm
    | succ m =>
      obtain ⟨h1, δ', h2, h3, h4⟩ := hs 0 a rfl
      rw [Nat.add_zero] at h1 h2 h3 h4
      have ih := lcN_map he xs (k + 1) m (by simp at h; omega) (by simp at hm; omega) fun j b hj => by
        have := hs (j + 1) b (by simpa using hj)
        rw [show k + (j + 1) = k + 1 + j by omega] at this
        exact this
      unfold lcN
      rw [h1]
      simp only
      rw [h2]
      simp only
      rw [h3]
      cases ht : t k a with
      | true =>
        have h4 := h4 ht
        simp only
        rw [h4]
        simp only
        rw [ih]
        simp [List.zipIdx_cons, List.filter_cons, ht]
      | false =>
        simp only
        rw [ih]
        simp [List.zipIdx_cons, List.filter_cons, ht]
theorem rng_ok {j : Int} (h0 : 0 ≤ j) (h : j ≤ 1000000) : -4611686018427387904 ≤ j ∧ j < 4611686018427387904 := ⟨by omega, by omega⟩
theorem range1_j {mr : AM} {δ : Sv} {μ μ1 : Mem} {j : Int} (h : mr δ μ = .ok [.int j] μ1) (h0 : 0 ≤ j) (hn : j ≤ 1000000) : iRange1 mr δ μ = .ok ((List.range j.toNat).map fun (k : Nat) => .int (k : Int)) μ1 := by
  unfold iRange1
  rw [h]
  simp only [bind_ok]
  rw [if_pos (rng_ok h0 hn)]
theorem range1_run {mr : AM} {δ : Sv} {μ μ1 : Mem} {n : Nat} (h : mr δ μ = .ok [.int (n : Int)] μ1) (hn : (n : Int) ≤ 1000000) : iRange1 mr δ μ = .ok ((List.range n).map fun (k : Nat) => .int (k : Int)) μ1 := by
  have := range1_j h (Int.natCast_nonneg n) hn
  rwa [Int.toNat_natCast] at this
theorem loc_ints (sc : Bool) (k : Nat) : ∀ l : List Int, locBs sc k (l.map D.int) = true
  | [] => rfl
  | a :: l => by simp [locBs, locB, loc_ints sc k l]
theorem loc_map {α : Type} {e : α → D} {sc : Bool} {k : Nat} : ∀ l : List α, (∀ a ∈ l, locB sc k (e a) = true) → locBs sc k (l.map e) = true
  | [], _ => rfl
  | a :: l, h => by simp [locBs, h a List.mem_cons_self, loc_map l fun b hb => h b (List.mem_cons_of_mem _ hb)]
theorem ix_nat {xs : List D} {μ : Mem} {k : Nat} {x : D} (h : seqOf μ x = some xs) : gIx x (.int (k : Int)) μ = xs[k]? := by
  unfold gIx
  simp only [h]
  unfold atI ixN
  rw [if_pos (by omega)]
  by_cases hk : k < xs.length
  · rw [if_pos (by omega)]
    simp
  · rw [if_neg (by omega), List.getElem?_eq_none (by omega)]
    rfl
/-- a slot's value -/
def vOf (o : Option (Option D)) (μ : Mem) : Out D := match o with
  | some (some d) => match d with
    | .lam => .stuck
    | .exc _ _ => .stuck
    | d => .ok d μ
  | _ => .stuck
theorem eVar_run {i : Nat} {δ : Sv} {μ : Mem} : eVar i δ μ = vOf δ[i]? μ := nr rfl
section
variable {μ : Mem}
@[simp] theorem vOf_int {i : Int} : vOf (some (some (.int i))) μ = .ok (.int i) μ := nr rfl
@[simp] theorem vOf_non : vOf (some (some .non)) μ = .ok .non μ := nr rfl
@[simp] theorem vOf_bl {b : Bool} : vOf (some (some (.bl b))) μ = .ok (.bl b) μ := nr rfl
@[simp] theorem vOf_str {x : Str} : vOf (some (some (.str x))) μ = .ok (.str x) μ := nr rfl
@[simp] theorem vOf_tup {xs : List D} : vOf (some (some (.tup xs))) μ = .ok (.tup xs) μ := nr rfl
@[simp] theorem vOf_lst {xs : List D} : vOf (some (some (.lst xs))) μ = .ok (.lst xs) μ := nr rfl
@[simp] theorem vOf_scr {xs : List D} : vOf (some (some (.scr xs))) μ = .ok (.scr xs) μ := nr rfl
@[simp] theorem vOf_loc {l : Nat} : vOf (some (some (.loc l))) μ = .ok (.loc l) μ := nr rfl
end
end Kw
set_option Elab.async false
set_option linter.all false
set_option maxRecDepth 100000
namespace Kw
open PySem PySem.Spec PyProof.Rows L2
theorem seq_nx {m1 m2 : SM} {δ δ1 : Sv} {μ μ1 : Mem} (h : m1 δ μ = .nx δ1 μ1) : sSeq m1 m2 δ μ = m2 δ1 μ1 := by rw [sSeq_run, h]; rfl
@[simp] theorem then_ct {δ : Sv} {μ : Mem} {k : Sv → Mem → SOut} : (SOut.ct δ μ).then k = .ct δ μ := nr rfl
@[simp] theorem then_bk {δ : Sv} {μ : Mem} {k : Sv → Mem → SOut} : (SOut.bk δ μ).then k = .bk δ μ := nr rfl
@[simp] theorem sCont_run {δ : Sv} {μ : Mem} : sCont δ μ = .ct δ μ := nr rfl
@[simp] theorem sBreak_run {δ : Sv} {μ : Mem} : sBreak δ μ = .bk δ μ := nr rfl
theorem append_at {xs : List D} {l : Nat} {μ : Mem} {y : D} (h : μ[l]? = some (.lst xs)) (hs : xs.length ≤ 1000000) : gAppend (.loc l) [y] μ = some (.non, μ.set l (.lst (xs ++ [y]))) := by
  have : xs.length < sizeLine := by show _ < 2 ^ 24; omega
  simp [gAppend, h, this]
theorem body_ret {N : Nat} {m : SM} {ds : List D} {μ μ' : Mem} {δ : Sv} {d : D} (hδ : ds.map some ++ List.replicate (N - ds.length) none = δ) (h : m δ μ = .ret d μ') : bodyM N m ds μ = .ok d μ' := by
  unfold bodyM
  rw [hδ, h]
theorem flat_map_ints : ∀ l : List Int, (l.map D.int).all flatD = true
  | [] => rfl
  | a :: l => by simp [flatD, flat_map_ints l]
theorem eqF_map_ints (x : Int) : ∀ l : List Int, ((l.map D.int).any fun z => eqF z (.int x)) = l.contains x
  | [] => rfl
  | a :: l => by
    have := eqF_map_ints x l
    rw [List.map_cons, List.any_cons, this, List.contains_cons]
    congr 1
    show (a == x) = (x == a)
    exact BEq.comm
theorem nin_ints (x : Int) (l : List Int) (μ : Mem) : gNin (.int x) (.lst (l.map D.int)) μ = some (.bl !l.contains x) := by
  unfold gNin gOr2 gNinF inF
  simp only [seqOf, lstOf, flat_map_ints, flatD, Bool.and_self, if_true, eqF_map_ints, Option.map_some]
/-- o[k] = v -/
theorem set_at {xs : List D} {l k : Nat} {μ : Mem} {y : D} (h : μ[l]? = some (.lst xs)) (hk : k < xs.length) : gSet (.loc l) (.int (k : Int)) y μ = some (μ.set l (.lst (xs.set k y))) := by
  unfold gSet
  simp only [h]
  have : ixN xs.length (k : Int) = some k := by
    unfold ixN
    rw [if_pos (by omega), if_pos (by omega)]
    simp
  rw [this]
/-- the places but l stay; there may be more -/
def Kp (l : Nat) (μ μ' : Mem) : Prop := μ.length ≤ μ'.length ∧ ∀ i, i < μ.length → i ≠ l → μ'[i]? = μ[i]?
theorem Kp.refl (l : Nat) (μ : Mem) : Kp l μ μ := ⟨Nat.le_refl _, fun _ _ _ => rfl⟩
theorem Kp.trans {l : Nat} {a b c : Mem} (x : Kp l a b) (y : Kp l b c) : Kp l a c := ⟨Nat.le_trans x.1 y.1, fun i h n => (y.2 i (Nat.lt_of_lt_of_le h x.1) n).trans (x.2 i h n)⟩
theorem Kp.of {l : Nat} {a b : Mem} (x : Stay l a b) : Kp l a b := ⟨Nat.le_of_eq x.1.symm, fun i _ n => x.2 i n⟩
theorem Kp.app (l : Nat) (μ : Mem) (b : Ob) : Kp l μ (μ ++ [b]) := ⟨by simp, fun i h _ => List.getElem?_append_left h⟩
/-- a change of a place that is new -/
theorem Kp.set {l k : Nat} {a b : Mem} {o : Ob} (x : Kp l a b) (hk : a.length ≤ k) : Kp l a (b.set k o) := ⟨by rw [List.length_set]; exact x.1, fun i h n => by rw [List.getElem?_set_ne (by omega)]; exact x.2 i h n⟩
theorem frz_at {δ : Sv} {μ : Mem} {i l : Nat} {xs : List D} (h1 : δ[i]? = some (some (.loc l))) (h2 : μ[l]? = some (.lst xs)) : sFrz i δ μ = .nx (δ.set i (some (.lst xs))) (μ.set l .gone) := by
  unfold sFrz
  rw [h1]
  simp only
  rw [h2]
theorem mtL_app {l : Nat} {μ μ2 : Mem} {xs ys : List D} {y : D} {ma : AM} {mo : EM} {δ : Sv} (ho : mo δ μ = .ok (.loc l) μ) (h : μ[l]? = some (.lst ys)) (ha : ma δ μ = .ok [y] μ2) (h2 : μ2[l]? = some (.lst xs)) (hs : xs.length ≤ 1000000) : eMtL gAppend mo ma δ μ = .ok .non (μ2.set l (.lst (xs ++ [y]))) := by
  have : lstX μ (.loc l) = some ys := by simp [lstX, h]
  simp [ho, this, ha, append_at h2 hs]
end Kw
set_option Elab.async false
set_option linter.all false
set_option maxRecDepth 100000
set_option maxHeartbeats 2000000
namespace Kw
open PySem PySem.Spec PyProof.Rows L2
/-- C(e) -/
def tMkS (fld : Str) (C : Addr) (ta : TA) : L2.St → Hp → XK → Prop := fun σ H Q => ta σ H fun vs H1 => ∃ v, vs = [v] ∧ ∀ dx, H1 dx = none → Q (.ref C) (some dx) (upd H1 dx (.xd [(fld, v)]))
theorem xd_one {P : Program} {w : World} {H : Hp} {h : Heap} {dx : Addr} {fld : Str} {v : V} {u : Value} (r : L2.RelV v u) (hn : h.Ns1 dx fun y => if y = fld then some u else none) : ObjOk P w H h dx (.xd [(fld, v)]) := by
  refine ⟨_, hn, fun f => ?_⟩
  by_cases e : f = fld
  · subst e
    simp [List.lookup]
    exact r
  · have : (f == fld) = false := by simpa using e
    simp [List.lookup, this, e]
    trivial
theorem pmk_sup {X : Cx} {cn fld txt : Str} {C fI : Addr} {e : Expr} {ta : TA} {p pos : Pos} (T : PySem.KwX.SupTxt X.prog X.K X.mg cn fld txt C fI) (hr : Room 1 X.A) (hg : Gl X cn) (ha : PA X [e] ta)
    (hdb : (cn == ("__debug__" : Str)) = false := by decide) (he : starEach [e] X.env = (false, eval e X.env) :: starEach [] X.env := by rfl) (hpl : (backTo pos (starEach [] X.env)).any (·.1) = false := by rfl) :
    PMk X (.Call (.Name cn p) [e] [] pos) (tMkS fld C ta) := by
  intro pins s σ H Q I h
  obtain ⟨B, NB, nw, ini, tail, FB, ⟨m1, m2, m3, m4, bm, m5, m6, m7, m8, m9, j0, j1, j2, j3, j5, clsAt, mroAt⟩, _, _⟩ := T.kind
  refine wpAny_Call_Name_kw (ld_glob I hg T.gC ?_ hdb)
  refine PySem.W.callWith_K (h₀ := X.base) I.ok.mod.kin T.kC (thn (ha.run pos pins s σ H _ I h) fun us st ⟨vs, HH, J, rl, v, hv, told⟩ => ⟨J.kIn, ?_⟩) he hpl
  subst hv
  obtain ⟨u, rfl, ru⟩ : ∃ u, us = [u] ∧ L2.RelV v u := by
    cases rl with
    | cons a b => cases b; exact ⟨_, rfl, a⟩
  show wpAny _ _ (call (.ref C) [u]) _ _ _
  obtain ⟨hp, gg, dw, tk, oss⟩ := st
  obtain ⟨x, hx⟩ : ∃ x, x = hp.objs.size + 1 := ⟨_, rfl⟩
  have keep2 : ∀ b o, hp.get? b = some o → ((hp.push (PySem.W.kdv_tup [u])).push (PySem.HandSPX.excO C hp.objs.size)).get? b = some o := fun b o z => Heap.get?_push_of_some _ (Heap.get?_push_of_some _ z)
  have there : ((hp.push (PySem.W.kdv_tup [u])).push (PySem.HandSPX.excO C hp.objs.size)).get? (hp.objs.size + 1) = some (PySem.HandSPX.excO C hp.objs.size) := by heap_get
  have old : ∀ {b : Addr} {o : Obj}, hp.get? b = some o → b ≠ x := fun {b o} z y => by
    have lt := Heap.lt_size z
    rw [y, hx] at lt
    exact Nat.lt_irrefl _ (Nat.lt_of_succ_lt lt)
  obtain ⟨mb, hmb, hbb⟩ := J.mod.blt
  have nx : ∀ {b : Addr} {o : Obj}, X.base.get? b = some o → b ≠ x := fun {b o} z => old (J.bk _ _ z)
  have nK : X.K.lookup x = none := by
    cases z : X.K.lookup x with
    | none => rfl
    | some o => exact absurd rfl (nx (J.mod.kin _ _ z))
  have nG : ∀ {L : Addr} {m : Str → Option Value}, X.base.Ns L m → x ≠ L := fun {L m} ⟨o, es, ep, z, _⟩ y => nx z y.symm
  refine wpAny_call (PySem.KwX.b_call FB mroAt (J.kIn _ _ clsAt) (PySem.W.looks_findIn J.kIn T.iC) (fun self => PySem.W.bind_fn J.kIn self T.tC) (by rw [sizeLine_eq]; show 1 ≤ _; omega) ?_)
  rw [← hx]
  refine PySem.KwX.sup_init T (t0 := hp.objs.size) (mg := X.mg) (mb := mb) (J.kIn.keeps keep2) ((J.mod.glob.keeps J.bk).keeps keep2) ((hmb.keeps J.bk).keeps keep2) hbb (J.nolimit.keeps keep2) (by rw [hx]; exact there) nK ?_ (nG J.mod.glob) (nG hmb) fun h' tk' dx t1 ie => ?_
  · exact (hr.make C [u] []).depth
  refine ⟨rfl, ?_⟩
  obtain ⟨G, g1, g2⟩ := restrict h' fun b => decide (b ≠ x)
  have gk : ∀ b, b ≠ x → G.get? b = h'.get? b := fun b hb => g1 b (decide_eq_true hb)
  have ge : G.get? x = none := g2 x (by simp)
  have dx0 : hp.objs.size ≤ dx := Nat.le_trans (by simp [Heap.size_push]; omega) ie.dbig
  have J2 := J.laid (t' := tk') (a := dx) (o := .xd [(fld, v)]) (h' := G) (fun b o z => by
    rw [gk b (old z)]
    exact ie.keep b o (old z) (keep2 b o z)) dx0 (xd_one ru (by
      obtain ⟨o, es, ep, z, r⟩ := ie.ns
      exact ⟨o, es, ep, (gk dx ie.dne).trans z, r⟩))
  have nH : HH x = none := J.hok.fresh (by rw [hx]; exact Nat.le_succ _)
  exact ⟨x, _, _, ⟨G, gg, dw, tk', oss⟩, _, .ref C, some dx, rfl, J2, fun b o z => by
      by_cases hb : b = x
      · rw [hb, ge] at z
        cases z
      · rw [gk b hb] at z
        exact z, ge, ie.obj, ⟨rfl, rfl⟩, rfl, rfl, by rw [upd_ne (Ne.symm ie.dne)]; exact nH, rfl, J.bare, raises_own T.exC T.tyC, told dx (J.hok.fresh dx0)⟩
/-- raise x(e) -/
def sRaise (cn fld : Str) (ma : EM) : SM := fun δ μ => (ma δ μ).bindS δ fun d μ1 => .exc ⟨cn, [(fld, d)]⟩ δ μ1
section
variable {X : Cx} {S : SI} {W : WX} {e : Expr} {ma : EM} {cn fld txt : Str} {C fI : Addr} {p pos pos2 : Pos}
theorem ps_raiseS (T : PySem.KwX.SupTxt X.prog X.K X.mg cn fld txt C fI) (hc : X.calm = true) (tk : Takes X W) (hr : Room 1 X.A) (hg : Gl X cn) (ha : PE X e (TEm X S W ma)) (hdb : (cn == ("__debug__" : Str)) = false := by decide)
    (he : starEach [e] X.env = (false, eval e X.env) :: starEach [] X.env := by rfl) (hpl : (backTo pos (starEach [] X.env)).any (·.1) = false := by rfl) :
    PS X (.Raise (some (.Call (.Name cn p) [e] [] pos)) none pos2) (TSm X S W (sRaise cn fld ma)) :=
  PSi (ps_raise hc tk (pmk_sup T hr hg (pa_cons ha pa_nil he) hdb he hpl)) fun D σ H ⟨w, δ, μ, rs, rm, h⟩ => by
    refine ⟨w, δ, μ, (At.bindS rs rm h).mono fun v H1 ⟨w1, μ1, d, le, rd, rs1, rm1, q⟩ => ⟨v, rfl, fun dx hd => ?_⟩⟩
    have lay1 := rm1.lay_le hd (.xd [(fld, v)])
    have lay2 := rm1.lay hd (o := .xd [(fld, v)]) (fun ps => by nofun)
    exact q (w1.lay dx (.xd [(fld, v)])) (.ref C) (some dx) σ _ lay1 lay2 (rs1.mono lay1) ⟨C, dx, [(fld, v)], T.gC, rfl, rfl, upd_same, rfl, .cons (rd.mono lay1) .nil⟩
end
end Kw
set_option Elab.async false
set_option linter.all false
set_option maxRecDepth 100000
set_option maxHeartbeats 2000000
namespace Kw
open PySem PySem.Spec PyProof.Rows L2
abbrev CT := Addr → Value → Option Addr → TS
/-- the ends of a suite whose name is slot i: the name goes -/
def endsAs (D : Ends) (i : Nat) : Ends := { nx := fun τ G => D.nx (τ.set i none) G, rt := D.rt, bk := fun τ G => D.bk (τ.set i none) G, ct := fun τ G => D.ct (τ.set i none) G }
def wishAs (K : PySem.W.Frag) (Wout : WX) (D : Ends) : List (Value × Nat × CT) → WX
  | [] => Wout
  | (c, i, ts) :: r => fun cls d τ G => ∃ b, PySem.W.exmOne K cls c = some b ∧ (b = true → ∀ a, G a = none → ts a cls d (endsAs D i) (τ.set i (some (.ref a))) G) ∧ (b = false → wishAs K Wout D r cls d τ G)
inductive HdsAs (X : Cx) : List ExceptHandler → List (Value × Nat × CT) → Prop
  | nil : HdsAs X [] []
  | cons {x n : Str} {c : Value} {i : Nat} {ts : CT} {b₀ : Stmt} {suite : List Stmt} {np pos' : Pos} {hds : List ExceptHandler} {l : List (Value × Nat × CT)} (named : Names X x c) (slot : X.N[i]? = some n) (own : X.env.kindOf n = some .local)
      (does : ∀ (a : Addr) (oe : Obj) (cls : Value) (d : Option Addr) (pn : List (Addr × Obj)), Zc cls d oe → (∃ vs, oe.data = .fields vs) → PSs (X.suite a ((a, oe) :: pn)) (b₀ :: suite) (ts a cls d)) (rest : HdsAs X hds l) :
      HdsAs X (.ExceptHandler (some (.Name x np)) (some n) (b₀ :: suite) pos' :: hds) ((c, i, ts) :: l)
  | cons0 {x : Str} {c : Value} {i : Nat} {ts : CT} {b₀ : Stmt} {suite : List Stmt} {np pos' : Pos} {hds : List ExceptHandler} {l : List (Value × Nat × CT)} (named : Names X x c) (out : X.N.length ≤ i)
      (does : ∀ (a : Addr) (oe : Obj) (cls : Value) (d : Option Addr) (pn : List (Addr × Obj)), Zc cls d oe → (∃ vs, oe.data = .fields vs) → PSs (X.suite a ((a, oe) :: pn)) (b₀ :: suite) (ts a cls d)) (rest : HdsAs X hds l) :
      HdsAs X (.ExceptHandler (some (.Name x np)) none (b₀ :: suite) pos' :: hds) ((c, i, ts) :: l)
section
variable {X : Cx} {pins : List (Addr × Obj)} {τ : L2.St} {G : Hp}
/-- an exception that has landed at a: what is known of it -/
structure Landed (X : Cx) (pins : List (Addr × Obj)) (τ : L2.St) (G : Hp) (a : Addr) (cls : Value) (d : Option Addr) (B : Heap) (sI s' : Shared) : Prop where
  inv : Inv X pins τ G sI
  ground : ∀ b o, sI.heap.get? b = some o → b ∉ frs X.stack → B.get? b = some o
  up : sI.heap.UpToSlots s'.heap
  fly : HandSPX.FlyingZ B (X.env :: X.outer) a (Zc cls d) s'.heap
  free : G a = none
  os : s'.os = sI.os
  bare : AllBare s'.gens
theorem Landed.inv' {a : Addr} {cls : Value} {d : Option Addr} {B : Heap} {sI s' : Shared} (L : Landed X pins τ G a cls d B sI s') : Inv X pins τ G s' := L.inv.landed L.ground L.fly.1 L.up L.os L.bare
theorem Landed.off {a : Addr} {cls : Value} {d : Option Addr} {B : Heap} {sI s' : Shared} (L : Landed X pins τ G a cls d B sI s') (hf : X.env.frame = some X.env.locals) : ∃ oe vs, s'.heap.get? a = some oe ∧ Zc cls d oe ∧ oe.data = .fields vs ∧ a ≠ X.env.locals ∧ a ∉ X.fs := by
  obtain ⟨oe, vs, at_, zc, dt⟩ := L.fly.there
  have away : a ∉ frs (X.env :: X.outer) := fun hm => by
    obtain ⟨_, o2, at2, no⟩ := L.fly.2.2.1.mem hm
    rw [at_] at at2
    cases at2
    exact no _ dt
  refine ⟨oe, vs, at_, zc, dt, fun z => away ?_, fun hm => away ?_⟩
  · exact List.mem_filterMap.mpr ⟨X.env, by simp, by rw [hf, z]⟩
  · obtain ⟨e, he, q⟩ := List.mem_filterMap.mp hm
    exact List.mem_filterMap.mpr ⟨e, by simp [he], q⟩
/-- no clause is left: it goes on -/
theorem hds_out {a : Addr} {cls : Value} {d : Option Addr} {B : Heap} {sI s' : Shared} {D : Ends} {Wout : WX} (L : Landed X pins τ G a cls d B sI s') (hs : X.stack = X.env :: X.outer) (hf : X.env.frame = some X.env.locals) (tk : Takes X Wout) (w : Wout cls d τ G) :
    wpAny (model X.prog X.w) X.A (handleBy (.ref a) X.env []) (SP X pins D) X.xe s' := by
  refine wpAny_handleBy_nil ?_
  have on : wpAny (model X.prog X.w) X.A (setFlight (.ref a) X.env.frame) (fun _ s4 => wpAny (model X.prog X.w) X.A (throw (.ref a) : Sem Flow) (SP X pins D) X.xe s4) X.xe s' := by
    rw [hf]
    refine HandSPX.setFlight_upZ L.fly fun h4 hold up4 => wpAny_throw (tk _ _ ?_)
    exact ⟨a, B, sI, pins, τ, G, cls, d, rfl, L.inv, L.ground, L.up.trans up4, .inr (.inr (by rw [hs]; exact hold)), L.free, L.os, L.bare, w⟩
  obtain ⟨_, _, _, oe, vs, tb, _, _, at_, _, dt, one, _⟩ := id L.fly
  unfold PySem.passOn
  refine wpAny_bind (wpAny_field at_ dt one ?_)
  have nn : ¬ ((Value.ref tb == Value.none) = true) := by simp
  rw [if_neg nn]
  first
    | exact wpAny_bind (wpAny_pure (wpAny_bind on))
    | exact wpAny_bind on
/-- the name of the clause goes, the suite is left -/
theorem suite_out {a : Addr} {oe : Obj} {pn : List (Addr × Obj)} {D : Ends} {i : Nat} {n : Str} {pos' : Pos} {s6 : Shared} {f : Flow} (ok : X.Ok) (hN : X.N.Nodup) (slot : X.N[i]? = some n) (own : X.env.kindOf n = some .local)
    (hsp : SP (X.suite a ((a, oe) :: (X.pn ++ pins))) [] (endsAs D i) f s6) : wpAny (model X.prog X.w) X.A (do bindName X.env n .none; unbindBehindTheSuite X.env n pos') (fun _ s7 => SP X pins D f s7) X.xe s6 := by
  have gone : ∀ {τ6 : L2.St} {G6 : Hp} {Q : Shared → Prop}, Inv (X.suite a ((a, oe) :: (X.pn ++ pins))) [] τ6 G6 s6 → (∀ s7, Inv X pins (τ6.set i none) G6 s7 → Q s7) →
      wpAny (model X.prog X.w) X.A (do bindName X.env n .none; unbindBehindTheSuite X.env n pos') (fun _ s7 => Q s7) X.xe s6 := fun {τ6 G6 Q} J q => gone_ok (J.unsuite ok) hN slot own q
  cases f with
  | ret u =>
    obtain ⟨v, t6, g6, J, rv, q⟩ := hsp
    exact gone J fun s7 J7 => ⟨_, _, _, J7, rv, q⟩
  | next =>
    obtain ⟨t6, g6, J, q⟩ := hsp
    exact gone J fun s7 J7 => ⟨_, _, J7, q⟩
  | brk =>
    obtain ⟨t6, g6, J, q⟩ := hsp
    exact gone J fun s7 J7 => ⟨_, _, J7, q⟩
  | cont =>
    obtain ⟨t6, g6, J, q⟩ := hsp
    exact gone J fun s7 J7 => ⟨_, _, J7, q⟩
theorem suite_out0 {a : Addr} {oe : Obj} {D : Ends} {i : Nat} {s6 : Shared} {f : Flow} (ok : X.Ok) (out : X.N.length ≤ i)
    (hsp : SP (X.suite a ((a, oe) :: (X.pn ++ pins))) [] (endsAs D i) f s6) : SP X pins D f s6 := by
  have same : ∀ {t6 : L2.St} {g6 : Hp}, Inv X pins t6 g6 s6 → t6.set i none = t6 := fun J => List.set_eq_of_length_le (by rw [J.len]; exact out)
  cases f with
  | ret u =>
    obtain ⟨v, t6, g6, J, rv, q⟩ := hsp
    exact ⟨v, t6, g6, J.unsuite ok, rv, q⟩
  | next =>
    obtain ⟨t6, g6, J, q⟩ := hsp
    have J' : Inv X pins t6 g6 s6 := J.unsuite ok
    exact ⟨t6, g6, J', by have q' : D.nx (t6.set i none) g6 := q; rwa [same J'] at q'⟩
  | brk =>
    obtain ⟨t6, g6, J, q⟩ := hsp
    have J' : Inv X pins t6 g6 s6 := J.unsuite ok
    exact ⟨t6, g6, J', by have q' : D.bk (t6.set i none) g6 := q; rwa [same J'] at q'⟩
  | cont =>
    obtain ⟨t6, g6, J, q⟩ := hsp
    have J' : Inv X pins t6 g6 s6 := J.unsuite ok
    exact ⟨t6, g6, J', by have q' : D.ct (t6.set i none) g6 := q; rwa [same J'] at q'⟩
theorem hds_run {a : Addr} {cls : Value} {d : Option Addr} {B : Heap} {sI s' : Shared} {D : Ends} {Wout : WX} (L : Landed X pins τ G a cls d B sI s') (hs : X.stack = X.env :: X.outer) (hf : X.env.frame = some X.env.locals) (hN : X.N.Nodup) (tk : Takes X Wout)
    {hds : List ExceptHandler} {l : List (Value × Nat × CT)} (hh : HdsAs X hds l) (w : wishAs X.K Wout D l cls d τ G) : wpAny (model X.prog X.w) X.A (handleBy (.ref a) X.env hds) (SP X pins D) X.xe s' := by
  have ok := L.inv.ok
  obtain ⟨oe, vs, at_, zc, dt, nl, nf⟩ := L.off hf
  have inSuite := L.inv'.suite at_ dt L.free nl nf
  induction hh with
  | nil => exact hds_out L hs hf tk w
  | @cons x n c i ts b₀ suite np pos' hds2 l2 named slot own does rest ih =>
    obtain ⟨b, said, yes, no⟩ := w
    have asks : ∀ {Q E : Value → Shared → Prop}, Q c s' → wpAny (model X.prog X.w) (X.A.mark (some (.ref a))) (eval (.Name x np) X.env) Q E s' := fun {Q E} q => by
      obtain ⟨h1, h2, h3 | ⟨h3, h4, h5⟩⟩ := named
      · exact ld_glob (X := X.suite a ((a, oe) :: (X.pn ++ pins))) inSuite h1 h3 q h2
      · exact ld_blt (X := X.suite a ((a, oe) :: (X.pn ++ pins))) inSuite h1 h3 h4 q h5 h2
    have ty : PySem.W.Looks (model X.prog X.w) s'.heap (typeOf (.ref a)) cls := fun _ _ _ t k q => wpAny_typeOf_ref (k _ _ at_) (by rw [zc.1]; exact q)
    have match_ := PySem.W.exm_one (M := model X.prog X.w) L.inv'.kIn ty said
    refine wpAny_handleBy_cons (codeAny_handlers_test (asks (match_.here ?_))) (by intro q; cases q)
    cases b with
    | false => exact ih (no rfl)
    | true =>
      refine codeAny_handlers_suite_as (HandSPX.lands_againZ L.fly fun h4 fly4 up4 => ?_)
      have L4 : Landed X pins τ G a cls d B sI { s' with heap := h4 } := ⟨L.inv, L.ground, L.up.trans up4, fly4, L.free, L.os, L.bare⟩
      obtain ⟨oe4, vs4, at4, zc4, dt4, _, _⟩ := L4.off hf
      have in4 := L4.inv'.suite at4 dt4 L.free nl nf
      refine store_ok (X := X.suite a ((a, oe4) :: (X.pn ++ pins))) (v := .ref a) in4 hN slot (.inl own) rfl (fun s5 in5 => ?_) (.inr own)
      exact wpAny_mono ((does a oe4 cls d (X.pn ++ pins) zc4 ⟨_, dt4⟩).run [] s5 _ G _ in5 (yes rfl a L.free)) (fun f s6 hsp => suite_out (pn := X.pn) ok hN slot own hsp) fun _ _ z => z.elim
  | @cons0 x c i ts b₀ suite np pos' hds2 l2 named out does rest ih =>
    obtain ⟨b, said, yes, no⟩ := w
    have asks : ∀ {Q E : Value → Shared → Prop}, Q c s' → wpAny (model X.prog X.w) (X.A.mark (some (.ref a))) (eval (.Name x np) X.env) Q E s' := fun {Q E} q => by
      obtain ⟨h1, h2, h3 | ⟨h3, h4, h5⟩⟩ := named
      · exact ld_glob (X := X.suite a ((a, oe) :: (X.pn ++ pins))) inSuite h1 h3 q h2
      · exact ld_blt (X := X.suite a ((a, oe) :: (X.pn ++ pins))) inSuite h1 h3 h4 q h5 h2
    have ty : PySem.W.Looks (model X.prog X.w) s'.heap (typeOf (.ref a)) cls := fun _ _ _ t k q => wpAny_typeOf_ref (k _ _ at_) (by rw [zc.1]; exact q)
    have match_ := PySem.W.exm_one (M := model X.prog X.w) L.inv'.kIn ty said
    refine wpAny_handleBy_cons (codeAny_handlers_test (asks (match_.here ?_))) (by intro q; cases q)
    cases b with
    | false => exact ih (no rfl)
    | true =>
      refine codeAny_handlers_suite (HandSPX.lands_againZ L.fly fun h4 fly4 up4 => ?_)
      have L4 : Landed X pins τ G a cls d B sI { s' with heap := h4 } := ⟨L.inv, L.ground, L.up.trans up4, fly4, L.free, L.os, L.bare⟩
      obtain ⟨oe4, vs4, at4, zc4, dt4, _, _⟩ := L4.off hf
      have in4 := L4.inv'.suite at4 dt4 L.free nl nf
      have yes' := yes rfl a L.free
      rw [List.set_eq_of_length_le (by rw [L.inv.len]; exact out)] at yes'
      exact wpAny_mono ((does a oe4 cls d (X.pn ++ pins) zc4 ⟨_, dt4⟩).run [] _ _ G _ in4 yes') (fun f s6 hsp => suite_out0 ok out hsp) fun _ _ z => z.elim
theorem ps_try_hds {body : List Stmt} {h₀ : ExceptHandler} {hds : List ExceptHandler} {l : List (Value × Nat × CT)} {pos : Pos} {tb : WX → TS} {Wout : WX} (hs : X.stack = X.env :: X.outer) (hf : X.env.frame = some X.env.locals) (hN : X.N.Nodup) (tk : Takes X Wout)
    (does : ∀ (W : WX) (pn : List (Addr × Obj)) (xe : Value → Shared → Prop), Takes (X.tr pn xe) W → PassesOwn (model X.prog X.w) X.A X.env xe → PSs (X.tr pn xe) body (tb W)) (hh : HdsAs X (h₀ :: hds) l) :
    PS X (.Try body (h₀ :: hds) [] [] pos) (fun D τ G => tb (wishAs X.K Wout D l) D τ G) := by
  refine ⟨fun pins s τ G D I h => wpAny_Try_except ?_⟩
  have ok := I.ok
  have hfr : X.A.frames = some (X.env :: X.outer) := ok.frames.trans (by rw [hs])
  refine wpAny_mono ((does (wishAs X.K Wout D l) (X.pn ++ pins) (fun e t1 => wpAny (model X.prog X.w) X.A (noteFrame e X.env) (fun _ t2 => wpAny (model X.prog X.w) X.A (setFlight e none) (fun _ t3 =>
    wpAny (model X.prog X.w) X.A (handleBy e X.env (h₀ :: hds)) (SP X pins D) X.xe t3) X.xe t2) X.xe t1) (fun u s' caught => ?_) PassesOwn.looking).run [] s τ G D (I.toTry _) h) (fun f s1 hsp => ?_) fun _ _ z => z
  · obtain ⟨a, B, sI, pins', τ', G', cls, d, rfl, J', ground, up, sky, na, os, ag, w⟩ := caught
    have J : Inv X pins τ' G' sI := J'.ofTry ok
    show wpAny (model X.prog X.w) X.A (noteFrame (.ref a) X.env) _ _ _
    refine Sky.land Zc.steady hfr hf (by rw [← hs]; exact sky) fun h3 fly3 up3 => ?_
    exact hds_run (s' := { s' with heap := h3 }) ⟨J, ground, up.trans up3, fly3, na, os, ag⟩ hs hf hN tk hh w
  · cases f with
    | ret u =>
      obtain ⟨v, t1, g1, J, rv, q⟩ := hsp
      exact ⟨v, t1, g1, J.ofTry ok, rv, q⟩
    | next =>
      obtain ⟨t1, g1, J, q⟩ := hsp
      exact wpAny_execs_nil ⟨t1, g1, J.ofTry ok, q⟩
    | brk =>
      obtain ⟨t1, g1, J, q⟩ := hsp
      exact ⟨t1, g1, J.ofTry ok, q⟩
    | cont =>
      obtain ⟨t1, g1, J, q⟩ := hsp
      exact ⟨t1, g1, J.ofTry ok, q⟩
end
end Kw
set_option Elab.async false
set_option linter.all false
set_option maxRecDepth 100000
set_option maxHeartbeats 2000000
namespace Kw
open PySem PySem.Spec PyProof.Rows L2
def noX : Option D → Bool
  | some (.exc _ _) => false
  | _ => true
/-- behind a suite whose name is slot i -/
def unNm (i : Nat) : SOut → SOut
  | .nx δ μ => if (δ.set i none).all noX = true then .nx (δ.set i none) μ else .stuck
  | .ret d μ => .ret d μ
  | .bk δ μ => if (δ.set i none).all noX = true then .bk (δ.set i none) μ else .stuck
  | .ct δ μ => if (δ.set i none).all noX = true then .ct (δ.set i none) μ else .stuck
  | _ => .stuck
/-- what is known of which class matches which: tab x c -/
abbrev ExT := List ((Str × Str) × Bool)
def goH (tab : ExT) (x : Xn) : List (Str × Nat × SM) → SM
  | [], δ, μ => .exc x δ μ
  | (c, i, m) :: r, δ, μ => match tab.lookup (x.cls, c) with
    | some true => if δ.all noX = true then unNm i (m (δ.set i (some (.exc x.cls x.fs))) μ) else .stuck
    | some false => goH tab x r δ μ
    | none => .stuck
/-- the table tells rightly -/
def TabOk (K : PySem.W.Frag) (mg : Str → Option Value) (tab : ExT) : Prop := ∀ x c b, ((x, c), b) ∈ tab → ∀ C D : Addr, mg x = some (.ref C) → mg c = some (.ref D) → PySem.W.exmOne K (.ref C) (.ref D) = some b
def SI.hold (S : SI) (a : Addr) (cls : Value) (d : Option Addr) : SI := { S with exa := a, ecls := cls, edd := d }
section
variable {K : PySem.W.Frag} {mg : Str → Option Value} {S : SI} {w : Wd} {δ : Sv} {τ : L2.St} {a : Addr} {cls : Value} {d : Option Addr}
theorem noX_get (h : δ.all noX = true) {i : Nat} {e : D} (he : δ[i]? = some (some e)) : noX (some e) = true := List.all_eq_true.mp h _ (List.mem_of_getElem? he)
theorem relS_hold {e : D} {v : V} (hn : noX (some e) = true) (r : RelS K mg S w e v) : RelS K mg (S.hold a cls d) w e v := by
  cases e with
  | lam => exact r
  | exc c fs => cases hn
  | _ => exact r
theorem relS_unhold {e : D} {v : V} (hn : noX (some e) = true) (r : RelS K mg (S.hold a cls d) w e v) : RelS K mg S w e v := by
  cases e with
  | lam => exact r
  | exc c fs => cases hn
  | _ => exact r
theorem relSv_hold (h : RelSv K mg S w δ τ) (hn : δ.all noX = true) : RelSv K mg (S.hold a cls d) w δ τ := ⟨h.1, fun i e he => let ⟨v, e1, r⟩ := h.2 i e he; ⟨v, e1, relS_hold (noX_get hn he) r⟩⟩
theorem relSv_unhold (h : RelSv K mg (S.hold a cls d) w δ τ) (hn : δ.all noX = true) : RelSv K mg S w δ τ := ⟨h.1, fun i e he => let ⟨v, e1, r⟩ := h.2 i e he; ⟨v, e1, relS_unhold (noX_get hn he) r⟩⟩
theorem relSv_putX {x : Xn} (h : RelSv K mg S w δ τ) (hn : δ.all noX = true) (rx : RelX K mg w x cls d) (i : Nat) : RelSv K mg (S.hold a cls d) w (δ.set i (some (.exc x.cls x.fs))) (τ.set i (some (.ref a))) := by
  have h' := relSv_hold (a := a) (cls := cls) (d := d) h hn
  refine ⟨by simp [h.1], fun j e he => ?_⟩
  by_cases hj : i = j
  · subst hj
    by_cases hl : i < δ.length
    · rw [List.getElem?_set_self hl] at he
      cases he
      exact ⟨.ref a, List.getElem?_set_self (by rw [← h.1]; exact hl), rfl, rx⟩
    · rw [List.getElem?_eq_none (by simpa using hl)] at he
      cases he
  · rw [List.getElem?_set_ne hj] at he ⊢
    exact h'.2 j e he
/-- what is wanted behind a suite -/
theorem sto_unNm {D : Ends} {i : Nat} {W : WX} {o : SOut} (h : STo K mg S W D w (unNm i o)) : STo K mg (S.hold a cls d) W0 (endsAs D i) w o := by
  cases o with
  | nx δ μ =>
    simp only [unNm] at h
    split at h
    · next hn => exact fun w' τ H le rm rs => h w' _ H le rm (relSv_unhold (rs.forget i) hn)
    · exact h.elim
  | ret e μ => exact h
  | bk δ μ =>
    simp only [unNm] at h
    split at h
    · next hn => exact fun w' τ H le rm rs => h w' _ H le rm (relSv_unhold (rs.forget i) hn)
    · exact h.elim
  | ct δ μ =>
    simp only [unNm] at h
    split at h
    · next hn => exact fun w' τ H le rm rs => h w' _ H le rm (relSv_unhold (rs.forget i) hn)
    · exact h.elim
  | exc x δ μ => exact h.elim
  | stuck => exact h.elim
end
section
variable {X : Cx} {S : SI} {W : WX}
theorem ext_mem {k : Str × Str} {b : Bool} : ∀ {tab : ExT}, tab.lookup k = some b → (k, b) ∈ tab
  | [], h => by cases h
  | (k', b') :: r, h => by
    rw [List.lookup_cons] at h
    split at h
    · next e =>
      cases h
      rw [eq_of_beq e]
      exact List.mem_cons_self
    · exact List.mem_cons_of_mem _ (ext_mem h)
/-- the clauses, by data -/
inductive HdsM (X : Cx) (S : SI) : List ExceptHandler → List (Str × Nat × SM) → Prop
  | nil : HdsM X S [] []
  | cons {x n : Str} {i : Nat} {m : SM} {b₀ : Stmt} {suite : List Stmt} {np pos' : Pos} {hds : List ExceptHandler} {l : List (Str × Nat × SM)} {C : Addr} (hg : Gl X x) (hdb : (x == ("__debug__" : Str)) = false) (hm : X.mg x = some (.ref C)) (slot : X.N[i]? = some n) (own : X.env.kindOf n = some .local)
      (does : ∀ (a : Addr) (oe : Obj) (cls : Value) (d : Option Addr) (pn : List (Addr × Obj)), Zc cls d oe → (∃ vs, oe.data = .fields vs) → PSs (X.suite a ((a, oe) :: pn)) (b₀ :: suite) (tS X.K X.mg (S.hold a cls d) W0 m)) (rest : HdsM X S hds l) :
      HdsM X S (.ExceptHandler (some (.Name x np)) (some n) (b₀ :: suite) pos' :: hds) ((x, i, m) :: l)
  | cons0 {x : Str} {i : Nat} {m : SM} {b₀ : Stmt} {suite : List Stmt} {np pos' : Pos} {hds : List ExceptHandler} {l : List (Str × Nat × SM)} {C : Addr} (hg : Gl X x) (hdb : (x == ("__debug__" : Str)) = false) (hm : X.mg x = some (.ref C)) (out : X.N.length ≤ i)
      (does : ∀ (a : Addr) (oe : Obj) (cls : Value) (d : Option Addr) (pn : List (Addr × Obj)), Zc cls d oe → (∃ vs, oe.data = .fields vs) → PSs (X.suite a ((a, oe) :: pn)) (b₀ :: suite) (tS X.K X.mg (S.hold a cls d) W0 m)) (rest : HdsM X S hds l) :
      HdsM X S (.ExceptHandler (some (.Name x np)) none (b₀ :: suite) pos' :: hds) ((x, i, m) :: l)
theorem hdsM_as {tab : ExT} (ok : TabOk X.K X.mg tab) {hds : List ExceptHandler} {l : List (Str × Nat × SM)} (h : HdsM X S hds l) : ∃ ts, HdsAs X hds ts ∧ ∀ (D : Ends) (w : Wd) (x : Xn) (δ : Sv) (μ : Mem) (cls : Value) (d : Option Addr) (τ : L2.St) (H : Hp),
    RelSv X.K X.mg S w δ τ → RelM X.K X.mg S.T w μ H → RelX X.K X.mg w x cls d → STo X.K X.mg S W D w (goH tab x l δ μ) → wishAs X.K W D ts cls d τ H := by
  induction h with
  | nil => exact ⟨[], .nil, fun D w x δ μ cls d τ H rs rm rx h => h w cls d τ H (Wd.Le.refl _) rm rs rx⟩
  | @cons x n i m b₀ suite np pos' hds l C hg hdb hm slot own does rest ih =>
    obtain ⟨ts, h1, h2⟩ := ih
    refine ⟨(.ref C, i, fun a cls d => tS X.K X.mg (S.hold a cls d) W0 m) :: ts, .cons ⟨hg, hdb, .inl hm⟩ slot own does h1, fun D w y δ μ cls d τ H rs rm rx h => ?_⟩
    unfold goH at h
    obtain ⟨CC, dd, gs, g1, g2, g3, g4, g5⟩ := id rx
    subst g2
    split at h
    · next e =>
      have mem := ext_mem e
      refine ⟨true, ok _ _ _ mem CC C g1 hm, fun _ a ha => ?_, fun z => by cases z⟩
      split at h
      · next hn => exact ⟨w, _, μ, relSv_putX rs hn rx i, rm, sto_unNm h⟩
      · exact h.elim
    · next e =>
      have mem := ext_mem e
      exact ⟨false, ok _ _ _ mem CC C g1 hm, (fun z => by cases z), fun _ => h2 D w y δ μ _ d τ H rs rm rx h⟩
    · exact h.elim
  | @cons0 x i m b₀ suite np pos' hds l C hg hdb hm out does rest ih =>
    obtain ⟨ts, h1, h2⟩ := ih
    refine ⟨(.ref C, i, fun a cls d => tS X.K X.mg (S.hold a cls d) W0 m) :: ts, .cons0 ⟨hg, hdb, .inl hm⟩ out does h1, fun D w y δ μ cls d τ H rs rm rx h => ?_⟩
    unfold goH at h
    obtain ⟨CC, dd, gs, g1, g2, g3, g4, g5⟩ := id rx
    subst g2
    split at h
    · next e =>
      have mem := ext_mem e
      refine ⟨true, ok _ _ _ mem CC C g1 hm, fun _ a ha => ?_, fun z => by cases z⟩
      split at h
      · next hn => exact ⟨w, _, μ, relSv_putX rs hn rx i, rm, sto_unNm h⟩
      · exact h.elim
    · next e =>
      have mem := ext_mem e
      exact ⟨false, ok _ _ _ mem CC C g1 hm, (fun z => by cases z), fun _ => h2 D w y δ μ _ d τ H rs rm rx h⟩
    · exact h.elim
/-- n.f, n in slot i, of the class c -/
def eFld (c f : Str) (i : Nat) : EM := fun δ μ => match δ[i]? with
  | some (some (.exc c' fs)) => if c' = c then (match fs.lookup f with
      | some d => .ok d μ
      | none => .stuck) else .stuck
  | _ => .stuck
/-- isinstance(n, ..), n of the class c -/
def eIsX (c : Str) (b : Bool) (i : Nat) : EM := fun δ μ => match δ[i]? with
  | some (some (.exc c' fs)) => if c' = c then .ok (.bl b) μ else .stuck
  | _ => .stuck
theorem relFs_lookup {K : PySem.W.Frag} {mg : Str → Option Value} {w : Wd} {f : Str} : ∀ {fs : List (Str × D)} {gs : List (Str × V)} {d : D}, RelFs K mg w fs gs → fs.lookup f = some d → ∃ v, gs.lookup f = some v ∧ RelD K mg w d v
  | [], gs, d, _, h => by cases h
  | (k, e) :: fs, [], d, ⟨h1, _⟩, _ => by simp at h1
  | (k, e) :: fs, (k', v) :: gs, d, ⟨h1, h2⟩, h => by
    simp only [List.map_cons, List.cons.injEq] at h1
    obtain ⟨rfl, h1⟩ := h1
    cases h2 with
    | cons r rr =>
      rw [List.lookup_cons] at h ⊢
      split at h
      · cases h
        exact ⟨v, by simp [*], r⟩
      · have := relFs_lookup ⟨h1, rr⟩ h
        simpa [*] using this
variable {a : Addr} {oe : Obj} {cls : Value} {d : Option Addr} {pn : List (Addr × Obj)} {c f n x : Str} {i : Nat} {C D : Addr} {p p1 p2 pos : Pos} {b : Bool}
theorem pe_fld (T : XfC X.K C) (hm : X.mg c = some (.ref C)) (hno : PySem.W.findIn X.K (.ref C) f = some none) (hz : Zc cls d oe) (hd : ∃ vs, oe.data = .fields vs) (hN : X.N[i]? = some n) (hv : Vis X.env.scope n) (h1 : (n == ("__debug__" : Str)) = false := by decide) (h2 : (n == ("__classdict__" : Str)) = false := by decide)
    (hb : attributeBase (.Name n p1) f X.env (eval (.Name n p1) X.env) = eval (.Name n p1) X.env := by rfl) :
    PE (X.suite a ((a, oe) :: pn)) (.Attribute (.Name n p1) f pos) (tE X.K X.mg (S.hold a cls d) W (eFld c f i)) :=
  PEi (pe_xf T hno hz hd (pe_var (X := X.suite a ((a, oe) :: pn)) hN hv h1 h2) hb) fun τ H Q ⟨w, δ, μ, h⟩ => by
    have h3 := h.2.2
    unfold eFld at h3
    split at h3
    · next c' fs e =>
      split at h3
      · next ec =>
        subst ec
        obtain ⟨v, hv, e1, CC, dd, gs, g1, g2, g3, g4, g5⟩ := h.1.2 i _ e
        rw [hm] at g1
        cases g1
        split at h3
        · next d0 l0 =>
          obtain ⟨v0, l1, r0⟩ := relFs_lookup g5 l0
          refine ⟨v, hv, e1, g2, dd, gs, v0, g3, h.2.1.φ _ _ g4, l1, ?_⟩
          exact h3 w v0 H (Wd.Le.refl _) h.2.1 r0
        · exact h3.elim
      · exact h3.elim
    · exact h3.elim
/-- what the class C says to isinstance -/
structure IsxC (K : PySem.W.Frag) (C : Addr) : Prop where
  ga : PySem.W.findIn K (.ref C) "__getattribute__" = some (some (.builtin "BaseException.__getattribute__"))
  gg : PySem.W.findIn K (.ref C) "__getattr__" = some none
  sb : PySem.W.subIn K (.ref C) (.type "BaseException") = some true
  cl : (PySem.W.clsIn K C).isSome = true
  at_ : PySem.W.findIn K (.ref C) "__class__" = some (some (.builtin "object.__class__"))
  sp : PySem.W.specialIn K (.builtin "object.__class__") "__get__" = some (some (.builtin "getset_descriptor.__get__"))
  tk : PySem.W.takesIn K (.builtin "object.__class__") = some true
  mo : PySem.W.mroIn K C (.type "object") = some true
end
end Kw
set_option Elab.async false
set_option linter.all false
set_option maxRecDepth 100000
set_option maxHeartbeats 2000000
namespace Kw
open PySem PySem.Spec PyProof.Rows L2
open LamX (Tabs TabS TabB ExtN LamS lamCx lamEnv CodeO)
abbrev AskM := Mem → Out D
/-- wishes that do not look at the slots -/
abbrev WU (E : XK) : WX := fun cls d _ H => E cls d H
/-- a(), a the def's argument -/
def eAsk (ask : AskM) : EM := fun δ μ => match δ[0]? with
  | some (some D.lam) => ask μ
  | _ => .stuck
def bodyH (N : Nat) (m : SM) : Mem → Out D := fun μ => match m (some D.lam :: List.replicate (N - 1) none) μ with
  | .ret d μ' => .ok d μ'
  | .nx _ μ' => .ok .non μ'
  | _ => .stuck
/-- x(lambda: body) -/
def eHrd (F : AskM → Mem → Out D) (body : EM) : EM := fun δ μ => match F (fun μ' => body δ μ') μ with
  | .ok d μ' => .ok d μ'
  | _ => .stuck
/-- .. the clauses see the fault alone -/
def sTryU (tab : ExT) (b : SM) (hs : List (Str × Nat × SM)) : SM := fun δ μ => match b δ μ with
  | .exc x δ1 μ1 => goH tab x hs (List.replicate δ.length none) μ1
  | o => o
section
variable {K : PySem.W.Frag} {mg : Str → Option Value} {T : List (Addr × Str)} {w w' : Wd} {μ : Mem} {H H1 : Hp}
/-- the thing at c is known for good -/
def Kn (w : Wd) (c : Addr) (o : HO) : Prop := w.φ c = some o ∨ w.fr c = some o
theorem Kn.mono0 {c : Addr} {o : HO} (h : Kn w c o) (le : w.L0 w') : Kn w' c o := h.imp (le.φ c o) fun h => by rw [le.fr]; exact h
theorem Kn.mono {c : Addr} {o : HO} (h : Kn w c o) (le : w.Lw w') : Kn w' c o := h.imp (le.φ c o) fun h => by rw [le.fr]; exact h
theorem Kn.at {c : Addr} {o : HO} (h : Kn w c o) (r : RelM K mg T w μ H) : H c = some o := h.elim (r.φ c o) (r.fr c o)
theorem RelM.extN (r : RelM K mg T w μ H) (e : ExtN H H1) (t : Tabs T H1) : RelM K mg T w μ H1 :=
  ⟨r.n, fun a o h => e a o (r.φ a o h) fun ps z => (r.nt a ps).1 (z ▸ h), fun a o h => e a o (r.fr a o h) fun ps z => (r.nt a ps).2.1 (z ▸ h), fun a o h => e a o (r.gr a o h) fun ps z => (r.nt a ps).2.2.1 (z ▸ h), r.dj, r.dg, fun l b hl => by
    obtain ⟨q1, q2⟩ := r.ob l b hl
    refine ⟨?_, q2⟩
    by_cases ng : b = .gone
    · subst ng
      obtain ⟨o, ho⟩ := r.gn l hl
      rw [e _ o (r.φ _ _ ho) fun ps z => (r.nt _ ps).1 (z ▸ ho)]
      exact .gone
    · cases ho : H (w.ρ l) with
      | none => rw [ho] at q1; cases q1
      | some o =>
        rw [ho] at q1
        rw [e _ o ho fun ps z => by subst z; cases q1; exact ng rfl]
        exact q1, r.gn, r.inj, t, ⟨fun a o h => ⟨e a o (r.lo.at_ a o h).1 (fun ps z => by obtain ⟨_, _, _, od, u, y⟩ := r.lo.at_ a o h; rw [y] at z; cases z), (r.lo.at_ a o h).2⟩, r.lo.ln, fun l kvs hl => by
    obtain ⟨q1, q2⟩ := r.ob l _ hl
    have q3 := r.lo.lo l kvs hl
    cases ho : H (w.ρ l) with
    | none => rw [ho] at q1; cases q1
    | some o =>
      rw [ho] at q1
      rw [e _ o ho (fun ps z => by subst z; cases q1), ← ho]
      exact q3⟩, r.nt⟩
theorem RelM.adopt (r : RelM K mg T w μ H) {c : Addr} {q : Str} (hc : H c = some (CodeO c q)) : ∃ w', w.Le w' ∧ RelM K mg T w' μ H ∧ Kn w' c (CodeO c q) := by
  cases h1 : w.φ c with
  | some o =>
    have := r.φ c o h1
    rw [hc] at this
    cases this
    exact ⟨w, .refl w, r, .inl h1⟩
  | none =>
    cases h2 : w.fr c with
    | some o =>
      have := r.fr c o h2
      rw [hc] at this
      cases this
      exact ⟨w, .refl w, r, .inr h2⟩
    | none =>
      have h3 : w.gr c = none := by
        cases h3 : w.gr c with
        | none => rfl
        | some o =>
          have := r.gr c o h3
          rw [hc] at this
          cases this
          exact absurd h3 ((r.nt c #[]).2.2.2 _)
      have away : ∀ {a o}, w.φ a = some o → a ≠ c := fun {a o} z e => by rw [e, h1] at z; cases z
      have le : w.Le (w.lay c (CodeO c q)) := ⟨Nat.le_refl _, fun _ _ => rfl, fun a o z => by show upd w.φ c _ a = _; rw [upd_ne (away z)]; exact z, rfl, rfl, rfl⟩
      refine ⟨w.lay c (CodeO c q), le, ⟨r.n, fun a o z => ?_, r.fr, r.gr, fun a o z => ?_, fun a o z => ⟨?_, (r.dg a o z).2⟩, fun l b hl => ?_, fun l hl => (r.gn l hl).imp fun u hu => le.φ _ _ hu, r.inj, r.tabs, ⟨fun a u z => ⟨(r.lo.at_ a u z).1, (r.lo.at_ a u z).2.1, by
        have ne : a ≠ c := fun e => by
          obtain ⟨z1, _, _, od, v, y⟩ := r.lo.at_ a u z
          rw [e, hc, y] at z1; cases z1
        show upd w.φ c _ a = none
        rw [upd_ne ne]; exact (r.lo.at_ a u z).2.2.1, (r.lo.at_ a u z).2.2.2⟩, r.lo.ln, r.lo.lo⟩, fun a ps => ⟨?_, (r.nt a ps).2⟩⟩, .inl upd_same⟩
      · have z' : upd w.φ c (CodeO c q) a = some o := z
        by_cases e : a = c
        · subst e; rw [upd_same] at z'; rw [← z']; exact hc
        · rw [upd_ne e] at z'; exact r.φ a o z'
      · have z' : w.fr a = some o := z
        show upd w.φ c _ a = none
        rw [upd_ne fun e => by rw [e, h2] at z'; cases z']
        exact r.dj a o z'
      · have z' : w.gr a = some o := z
        show upd w.φ c _ a = none
        rw [upd_ne fun e => by rw [e, h3] at z'; cases z']
        exact (r.dg a o z').1
      · obtain ⟨q1, q2⟩ := r.ob l b hl
        refine ⟨q1.mono le, fun ng => ⟨?_, (q2 ng).2⟩⟩
        show upd w.φ c _ (w.ρ l) = none
        have : w.ρ l ≠ c := fun e => by
          rw [e, hc] at q1
          have q1' : RelOb K mg w b (some (.ext _)) := q1
          cases q1'
          exact ng rfl
        rw [upd_ne this]
        exact (q2 ng).1
      · show upd w.φ c _ a ≠ _
        by_cases e : a = c
        · subst e; rw [upd_same]; intro z; have z' := Option.some.inj z; unfold CodeO at z'; cases z'
        · rw [upd_ne e]; exact (r.nt a ps).1
end
section
variable {X : Cx} {pins : List (Addr × Obj)} {σ : L2.St} {H HZ : Hp} {s s1 : Shared}
/-- the frame in which the def runs that got the lambda -/
abbrev gCx (X : Cx) (Ng : List Str) (qg : Str) (sg : Scope) (g : Addr) (cdg : Value) (s : Shared) (H : Hp) : Cx := cxOf C8.CX0 X.prog X.w X.K X.mg X.base Ng qg sg g cdg X.A X.stack s H C8.E0
theorem pe_actG {Ng : List Str} {qg : Str} {sg : Scope} {g f c' : Addr} {cdg pm ctv : Value} {params : Arguments} {body : Expr} {scope : Scope} {k : Nat} {a : Str} {pn : List (Addr × Obj)} {xe : Value → Shared → Prop} {E : XK} {tb : TE} {p1 p2 : Pos}
    (I : Inv X pins σ H s) (L : LamS X.env.scope scope) (lam : s.heap.get? f = some (PySem.W.kla_obj "<lambda>" (X.env.qual ++ "<lambda>") params body scope (cloFrom X.env.cells scope.names []) pm c' ctv)) (lamH : H f = none) (lamF : f ∉ frs X.stack)
    (binds : bindArgs (PySem.W.kla_fn "<lambda>" (X.env.qual ++ "<lambda>") params body scope (cloFrom X.env.cells scope.names []) pm (.ref c') ctv) ⟨[], []⟩ = pure [])
    (tk : Takes ((gCx X Ng qg sg g cdg s H).tr pn xe) (WU E)) (hr : Room (k + 1) (X.A.deeper (envOfC qg sg s.heap.objs.size g cdg)))
    (does : ∀ (t : Shared) (G : Hp), Room k ((X.A.deeper (envOfC qg sg s.heap.objs.size g cdg)).deeper (lamEnv X scope t.heap.objs.size f c')) → PE (lamCx X (X.A.deeper (envOfC qg sg s.heap.objs.size g cdg)) (envOfC qg sg s.heap.objs.size g cdg :: X.stack) t G E scope f c') body tb)
    (at0 : Ng[0]? = some a) (vis : Vis sg a) (hd : (a == ("__debug__" : Str)) = false) (hcd : (a == ("__classdict__" : Str)) = false) :
    PE ((gCx X Ng qg sg g cdg s H).tr pn xe) (.Call (.Name a p1) [] [] p2) (fun τ G Q => τ[0]? = some (some (.ref f)) ∧ G c' = some (CodeO c' (X.env.qual ++ "<lambda>")) ∧ tb σ G Q) := by
  refine ⟨fun pz sz τ G Q J ⟨h0, hc, ht⟩ => ?_⟩
  refine wpAny_Call_Name_kw (thn ((pe_var (pos := p1) (i := 0) at0 vis hd hcd).run pz sz τ G (fun v G1 => v = .ref f ∧ G1 = G) J ⟨.ref f, h0, rfl, rfl⟩) fun u t ⟨v, G1, J1, ru, ev, eG⟩ => ?_)
  subst ev eG
  obtain rfl : u = Value.ref f := ru
  have stays := J1.base.keep f _ lam lamH lamF (fun z => nomatch (show f ∈ ([] : List Addr) from z))
  refine PySem.W.callWith_F0 ⟨_, _, _, _, stays⟩ ?_
  obtain ⟨⟨oc, vs, tok, hoc, hdc, hvc⟩, _, _⟩ := J1.hok c' _ hc
  have run : codeAny (model X.prog X.w) (X.A.deeper (envOfC qg sg s.heap.objs.size g cdg)) (.call (.ref f) ⟨[], []⟩) (CR (L2.CX X.prog X.w) (envOfC qg sg s.heap.objs.size g cdg :: X.stack) X.prog X.w G1 t Q E) t := by
    refine PySem.W.kla_callFunE hr.depth stays rfl L.co L.gen rfl ⟨c', oc, vs, tok, rfl, hoc, hdc, hvc⟩ ?_
    rw [binds]
    refine wpAny_pure (wpAny_newFunctionEnv (fun y hy => (L.own y hy).2) (fun y hy => absurd hy (by simp)) (fun h1 ns1 sb1 => ⟨J1.nolimit.fresh _ sb1, ?_⟩) L.kind)
    have kp : ∀ b o, t.heap.get? b = some o → h1.get? b = some o := fun b o z => sb1.extBut b o (Nat.ne_of_lt (Heap.lt_size z)) (Heap.get?_push_of_some _ z)
    have begun : Inv (lamCx X (X.A.deeper (envOfC qg sg s.heap.objs.size g cdg)) (envOfC qg sg s.heap.objs.size g cdg :: X.stack) t G1 E scope f c') [] σ G1 { t with heap := h1, toks := t.toks + ([] : List (Str × Value)).length } :=
      LamX.lam_start2 I L J1.env0 hr.hd J1.base ns1 kp
    show codeAny (model X.prog X.w) _ (.expr body (lamEnv X scope t.heap.objs.size f c')) _ _
    refine PySem.W.kla_codeExpr (wpAny_mono ((does t G1 (hr.deeper _)).run [] _ _ G1 Q begun ht) (fun v t' ⟨v', G', J', rv, q⟩ => ?_) fun _ _ z => z)
    exact ⟨v', G', J'.os, J'.bare, J'.base, J'.hok, rv, q⟩
  have lets := passes_call (E := E) tk fun _ _ _ _ z => z
  refine wpAny_call (codeAny_mono run fun r t' z => ?_)
  cases r with
  | error er => exact lets pz τ G1 t er t' J1 z
  | ok fl =>
    cases fl with
    | ret u => exact J1.after z
    | next => exact z.elim
    | brk => exact z.elim
    | cont => exact z.elim
end
/-- the def x, which calls its argument a, does what F says -/
structure HrdD (P : Program) (w : World) (K : PySem.W.Frag) (mg : Str → Option Value) (base : Heap) (T : List (Addr × Str)) (x : Str) (st : Stmt) (a : Str) (F : AskM → Mem → Out D) : Prop where
  ex : ∃ (g : Addr) (fd : FuncData) (N : List Str) (m : AskM → SM), FnP K x st g fd ∧ mg x = some (.ref g) ∧ FnScope N [a] (defScope st) ∧ N[0]? = some a ∧ Vis (defScope st) a ∧ L2.Binds K fd [a] [] ∧ (∀ ask, F ask = bodyH N.length (m ask)) ∧
    ∀ (ask : AskM) (A : Around) (outer : List Env) (s : Shared) (H : Hp) (cd : Value) (lam : V) (w0 : Wd), Room 1 (A.deeper (envOfC x (defScope st) s.heap.objs.size g cd)) → A.guards = some [] →
      (∀ (E : XK) (pn : List (Addr × Obj)) (xe : Value → Shared → Prop) (p1 p2 : Pos), Takes ((cxOf C8.CX0 P w K mg base N x (defScope st) g cd A outer s H C8.E0).tr pn xe) (WU E) →
        PE ((cxOf C8.CX0 P w K mg base N x (defScope st) g cd A outer s H C8.E0).tr pn xe) (.Call (.Name a p1) [] [] p2) (tE K mg { T := T, lam := lam, w0 := w0 } (WU E) (eAsk ask))) →
      PSs (cxOf C8.CX0 P w K mg base N x (defScope st) g cd A outer s H C8.E0).nox (defBody st) (tS K mg { T := T, lam := lam, w0 := w0 } W0 (m ask))
section
variable {X : Cx} {S : SI} {W : WX} {x a : Str} {st : Stmt} {F : AskM → Mem → Out D} {mb : EM} {k : Nat} {c P : Addr} {params : Arguments} {body : Expr} {scope : Scope} {p lpos pos : Pos}
theorem pe_hrd (C : HrdD X.prog X.w X.K X.mg X.base S.T x st a F) (hg : Gl X x) (TB : TabB X.base X.mg c P) (hcode : X.env.code = .ref c) (hmT : (P, X.env.qual ++ "<lambda>") ∈ S.T) (hu : ∀ q ∈ S.T, q.1 = P → q.2 = X.env.qual ++ "<lambda>") (hr : Room (k + 2) X.A) (hgd : X.A.guards = some [])
    (L : LamS X.env.scope scope) (hdef : defaultsOf params X.env = ([], [])) (hbind : ∀ (q : Str) (cl : List (Str × Addr)) (pm cv ctv : Value), bindArgs (PySem.W.kla_fn "<lambda>" q params body scope cl pm cv ctv) ⟨[], []⟩ = pure [])
    (does : ∀ (A : Around) (outer : List Env) (t : Shared) (G : Hp) (E : XK) (f c' : Addr), Room k (A.deeper (lamEnv X scope t.heap.objs.size f c')) → A.guards = some [] → Takes (lamCx X A outer t G E scope f c') (WU E) → PE (lamCx X A outer t G E scope f c') body (tE X.K X.mg S (WU E) mb))
    (hdb : (x == ("__debug__" : Str)) = false := by decide) (hd : (a == ("__debug__" : Str)) = false := by decide) (hcd : (a == ("__classdict__" : Str)) = false := by decide) :
    PE X (.Call (.Name x p) [.Lambda params body scope lpos] [] pos) (TEm X S W (eHrd F mb)) := by
  refine ⟨fun pins s σ H Q I ⟨w, δ, μ, rs, rm, h⟩ => ?_⟩
  obtain ⟨g, fd, N, m, FP, hm, Sg, at0, vis, hb, hF, gives⟩ := C.ex
  obtain ⟨oc, od, dV, kV, doc, pm, an, cdv, ct, osl, rfl, lk, hcg, _, _⟩ := FP.ex
  refine wpAny_Call_Name_kw (ld_glob I hg hm ?_ hdb)
  refine PySem.W.callWith_K (h₀ := X.base) I.ok.mod.kin FP.kp ?_ (by rfl) (by rfl)
  show wpAny _ _ (spliced ((false, eval (.Lambda params body scope lpos) X.env) :: backTo pos (starEach [] X.env))) _ _ s
  refine Calls.spliced_cons (LamX.lam_make2 I TB hcode hmT hu rm.tabs hdef (L.has I.ok) fun f c' pm' ctv H1 s' J eN T1 lam lamH lamF code => ?_)
  refine Calls.spliced_nil ⟨J.kIn, ?_⟩
  obtain ⟨w1, le1, rm1, kn⟩ := (rm.extN eN T1).adopt code
  have rs1 := rs.mono le1
  unfold eHrd at h
  rw [hF] at h
  unfold bodyH at h
  have run : codeAny (model X.prog X.w) X.A (.call (.ref g) ⟨[.ref f], []⟩) (CR C8.CX0 X.stack X.prog X.w H1 s' Q C8.E0) s' := by
    refine LamX.run_ofS (N := N) (ps := [a]) (us := [.ref f]) (vs := [.ref f]) lk hcg Sg hr J.env0 (hb s' [.ref f] J.kIn rfl) (.cons rfl .nil) rfl fun hr' => ?_
    have body_ := gives (fun μ' => mb δ μ') X.A X.stack s' H1 cdv (.ref f) w1 (hr'.mono (by omega)) hgd fun E pn xe p1 p2 tk => by
      refine PEi (pe_actG (k := k) J L lam lamH lamF (hbind _ _ _ _ _) tk hr' (fun t G hr2 => does _ _ t G E f c' hr2 hgd (takes_of rfl rfl rfl rfl)) at0 vis hd hcd) fun τ G Q' ⟨wz, δz, μz, z1, z2, z3⟩ => ?_
      unfold eAsk at z3
      split at z3
      · next e =>
        obtain ⟨v, hv, ev, lw⟩ := z1.2 0 _ e
        refine ⟨by rw [hv, ev], (kn.mono0 lw).at z2, wz, δ, μz, rs1.mono0 lw, z2, z3⟩
      · exact z3.elim
    refine ⟨_, body_.nox, w1, some D.lam :: List.replicate (N.length - 1) none, μ, ?_, rm1, ?_⟩
    · have hl : 1 ≤ N.length := by cases N with
        | nil => simp at at0
        | cons _ _ => simp
      refine ⟨by simp [L2.start], fun i d e => ?_⟩
      cases i with
      | zero =>
        simp at e
        subst e
        exact ⟨.ref f, by simp [L2.start], rfl, ⟨Nat.le_refl _, fun _ _ => rfl, fun _ _ z => z, rfl⟩⟩
      | succ i =>
        simp [List.getElem?_replicate] at e
    · generalize m (fun μ' => mb δ μ') (some D.lam :: List.replicate (N.length - 1) none) μ = o at h
      cases o with
      | ret d μ' => exact fun w' v G le r rd => h w' v G (le1.trans le) r rd
      | nx δ' μ' => exact fun w' τ G le r _ => h w' .non G (le1.trans le) r .non
      | exc x δ' μ' => exact h.elim
      | bk δ' μ' => exact h.elim
      | ct δ' μ' => exact h.elim
      | stuck => exact h.elim
  refine wpAny_call (codeAny_mono run fun r s2 z => ?_)
  cases r with
  | error e => exact (show False from z).elim
  | ok fl =>
    cases fl with
    | ret u => exact J.after z
    | next => exact z.elim
    | brk => exact z.elim
    | cont => exact z.elim
theorem ps_tryU {tab : ExT} (ok : TabOk X.K X.mg tab) {body : List Stmt} {h₀ : ExceptHandler} {hds : List ExceptHandler} {l : List (Str × Nat × SM)} {pos : Pos} {mb : SM} (hs : X.stack = X.env :: X.outer) (hf : X.env.frame = some X.env.locals) (hN : X.N.Nodup) (tk : Takes X W)
    (does : ∀ (E : XK) (pn : List (Addr × Obj)) (xe : Value → Shared → Prop), Takes (X.tr pn xe) (WU E) → PassesOwn (model X.prog X.w) X.A X.env xe → PSs (X.tr pn xe) body (tS X.K X.mg S (WU E) mb)) (hh : HdsM X S (h₀ :: hds) l) :
    PS X (.Try body (h₀ :: hds) [] [] pos) (TSm X S W (sTryU tab mb l)) := by
  obtain ⟨ts, h1, h2⟩ := hdsM_as (W := W) ok hh
  have th := ps_try_hds (pos := pos) (tb := fun V D τ G => ∃ E : XK, (∀ cls d τ' G', τ'.length = X.N.length → E cls d G' → V cls d τ' G') ∧ tS X.K X.mg S (WU E) mb D τ G) hs hf hN tk (fun V pn xe tk' po => ⟨fun pins s τ G D I ⟨E, hE, h⟩ =>
    (does E pn xe (fun u s' ⟨a, B, sI, pins', τ', G', cls, d, e, J, nb, up, sky, na, os, ag, z⟩ => tk' u s' ⟨a, B, sI, pins', τ', G', cls, d, e, J, nb, up, sky, na, os, ag, hE cls d τ' G' J.len z⟩) po).run pins s τ G D I h⟩) h1
  refine ⟨fun pins s τ G D I ⟨w, δ, μ, rs, rm, h⟩ => th.run pins s τ G D I ?_⟩
  have hl : δ.length = X.N.length := rs.1.trans I.len
  refine ⟨fun cls d G' => ∃ w' x μ1, RelM X.K X.mg S.T w' μ1 G' ∧ RelX X.K X.mg w' x cls d ∧ STo X.K X.mg S W D w' (goH tab x l (List.replicate X.N.length none) μ1), fun cls d τ' G' e ⟨w', x, μ1, r1, r2, r3⟩ => ?_, w, δ, μ, rs, rm, ?_⟩
  · refine h2 D w' x _ μ1 cls d τ' G' ⟨by simp [e], fun i d he => ?_⟩ r1 r2 r3
    simp [List.getElem?_replicate] at he
  · unfold sTryU at h
    cases e : mb δ μ with
    | exc x δ1 μ1 =>
      rw [e, hl] at h
      exact fun w' cls dd τ' G' le r rs' rx => ⟨w', x, μ1, r, rx, STo.mono le h⟩
    | nx δ1 μ1 => rw [e] at h; exact h
    | ret e1 μ1 => rw [e] at h; exact h
    | bk δ1 μ1 => rw [e] at h; exact h
    | ct δ1 μ1 => rw [e] at h; exact h
    | stuck => rw [e] at h; exact h
end
end Kw
set_option Elab.async false
set_option linter.all false
set_option maxRecDepth 100000
set_option maxHeartbeats 2000000
namespace Kw
open PySem PySem.Spec PyProof.Rows L2
/-- parameters and body of an own __init__ of one field -/
def iniB (fld txt : Str) (ps : Arguments) (b : FuncBody) : Bool := match ps with
  | ⟨[], [⟨a1, none, _⟩, ⟨a2, none, _⟩], none, [], [], none, []⟩ => (match b with
    | .stmts [.Expr (.Call (.Attribute (.Call (.Name n1 _) [] [] _) n2 q3) [.Constant (.str t) _ _] [] q5) _, .Assign [.Attribute (.Name n3 _) n4 _] (.Name n5 _) _] =>
      decide (a1 = "self") && (decide (a2 = fld) && (decide (n1 = "super") && (decide (n2 = "__init__") && (decide (t = txt) && (decide (n3 = "self") && (decide (n4 = fld) && (decide (n5 = fld) && (q3.endLine == q5.line))))))))
    | _ => false)
  | _ => false
theorem iniB_ok {fld txt : Str} {ps : Arguments} {b : FuncBody} (h : iniB fld txt ps b = true) : ∃ (j : Nat) (p1 p2 q1 q2 q3 q4 q5 q6 q7 q8 q9 q10 : Pos), ps = PySem.KwX.iA fld p1 p2 ∧ b = .stmts (PySem.KwX.iB fld txt j q1 q2 q3 q4 q5 q6 q7 q8 q9 q10) ∧ (q3.endLine == q5.line) = true := by
  unfold iniB at h
  split at h
  · split at h
    · simp only [Bool.and_eq_true, decide_eq_true_eq] at h
      obtain ⟨h1, h2, h3, h4, h5, h6, h7, h8, h9⟩ := h
      subst h1 h2 h3 h4 h5 h6 h8
      exact ⟨_, _, _, _, _, _, _, _, _, _, _, _, _, rfl, by rw [h7]; rfl, h9⟩
    · cases h
  · cases h
def clsB (K : PySem.W.Frag) (nw : String) (tail : List Value) (C : Addr) : Bool := match K.lookup C with
  | some ⟨.type t, _, .cls cd, sl⟩ => decide (t = "type") && (match cd.mro, sl.toList with
    | .ref C' :: bm, [_, _, _, _, some (.builtin n), _] => decide (C' = C) && (decide (n = nw) && (!cd.hasDel && (cd.hasDict && PySem.KwX.refsT tail bm)))
    | _, _ => false)
  | _ => false
theorem clsB_ok {K : PySem.W.Frag} {nw : String} {tail : List Value} {C : Addr} (h : clsB K nw tail C = true) : ∃ nm q N bs bm sn sub ab col dd k0 k1 k2 k3 k5, K.lookup C = some (excClassObj nm q C N bs bm true sn sub ab col dd k0 k1 k2 k3 k5 nw) ∧ PySem.KwX.refsT tail bm = true := by
  unfold clsB at h
  split at h
  · next t dd cd sl e =>
    rw [Bool.and_eq_true, decide_eq_true_eq] at h
    obtain ⟨rfl, h⟩ := h
    split at h
    · next C' bm k0 k1 k2 k3 n k5 hm hs =>
      simp only [Bool.and_eq_true, decide_eq_true_eq, Bool.not_eq_true'] at h
      obtain ⟨rfl, rfl, h1, h2, h3⟩ := h
      obtain ⟨nm, bs, mro, ns, qn, hd, sn, sub, ab, col, del⟩ := cd
      simp only at hm h1 h2
      subst hm h1 h2
      have : sl = #[k0, k1, k2, k3, some (.builtin n), k5] := by
        obtain ⟨l⟩ := sl
        simp only at hs
        rw [hs]
      subst this
      exact ⟨nm, qn, ns, bs, bm, sn, sub, ab, col, dd, k0, k1, k2, k3, k5, e, h3⟩
    · cases h
  · cases h
/-- the __init__ at fI, of the class at C -/
def funB (K : PySem.W.Frag) (file fld txt : Str) (C fI : Addr) : Bool := match K.lookup fI with
  | some ⟨_, _, .func fd, _⟩ => decide (fd.name = "__init__") && (iniB fld txt fd.params fd.body && (decide (fd.scope = PySem.KwX.iS fld) && (decide (fd.globals = mainGlobals) && (decide (fd.builtins = builtinsNs) && (decide (fd.defaults = .none) && (PySem.W.codeIn K fd.code fd.qualname &&
      ((match fd.code with
        | .ref cda => (match K.lookup cda with
          | some ⟨_, _, .fields vs, _⟩ => (match (vs[2]? : Option Value) with
            | some (Value.str f _) => decide (f = file)
            | _ => false)
          | _ => false)
        | _ => false) &&
      (match fd.closure with
        | [(n, cc)] => decide (n = "__class__") && (match K.lookup cc with
          | some ⟨_, _, .cell (some (.ref D)), _⟩ => decide (D = C)
          | _ => false)
        | _ => false))))))))
  | _ => false
theorem funB_ok {K : PySem.W.Frag} {file fld txt : Str} {C fI : Addr} (h : funB K file fld txt C fI = true) : ∃ (oc : Value) (od : Option Addr) (kV doc pm : Value) (an : Option Addr) (ct ccl : Value) (cdd : Option Addr) (vs : Array Value) (ccs : Array (Option Value)) (osl csl : Array (Option Value)) (cl : Value) (cld : Option Addr) (tf : Tok) (qual : Str) (cda cc : Addr) (j : Nat) (p1 p2 q1 q2 q3 q4 q5 q6 q7 q8 q9 q10 : Pos),
    K.lookup fI = some ⟨oc, od, .func (PySem.W.ksFn "__init__" qual (PySem.KwX.iA fld p1 p2) (PySem.KwX.iB fld txt j q1 q2 q3 q4 q5 q6 q7 q8 q9 q10) (PySem.KwX.iS fld) .none kV doc pm an (.ref cda) ct cc), osl⟩ ∧ PySem.W.codeIn K (.ref cda) qual = true ∧
    K.lookup cda = some ⟨ccl, cdd, .fields vs, ccs⟩ ∧ vs[2]? = some (.str file tf) ∧ K.lookup cc = some ⟨cl, cld, .cell (some (.ref C)), csl⟩ ∧ (q3.endLine == q5.line) = true := by
  unfold funB at h
  split at h
  · next oc od fd osl e =>
    obtain ⟨n1, n2, n3, n4, n5, n6, n7, n8, n9, n10, n11, n12, n13, n14, n15⟩ := fd
    simp only [Bool.and_eq_true, decide_eq_true_eq] at h
    obtain ⟨h1, h2, h3, h4, h5, h6, h7, h8, h9⟩ := h
    obtain ⟨j, p1, p2, q1, q2, q3, q4, q5, q6, q7, q8, q9, q10, i1, i2, i3⟩ := iniB_ok h2
    subst h1 h3 h4 h5 h6 i1 i2
    split at h8
    · next cda =>
      split at h8
      · next ccl cdd vs ccs e2 =>
        split at h8
        · next f tf e3 =>
          have e4 := of_decide_eq_true h8
          subst e4
          split at h9
          · next n cc =>
            rw [Bool.and_eq_true, decide_eq_true_eq] at h9
            obtain ⟨rfl, h9⟩ := h9
            split at h9
            · next cl cld DD csl e5 =>
              have e6 := of_decide_eq_true h9
              subst e6
              exact ⟨oc, od, n9, n10, n11, n12, n14, ccl, cdd, vs, ccs, osl, csl, cl, cld, tf, n2, cda, cc, j, p1, p2, q1, q2, q3, q4, q5, q6, q7, q8, q9, q10, e, h7, e2, e3, e5, i3⟩
            · cases h9
          · cases h9
        · cases h8
      · cases h8
    · cases h8
  · cases h
def eqV (a b : Option (Option Value)) : Bool := decide (a = b)
/-- over ValueError, or over KeyError -/
def kndB (K : PySem.W.Frag) (C : Addr) (B nw ini : String) (tail : List Value) : Bool := clsB K nw tail C && (decide (PySem.W.subIn K (.ref C) (.type B) = some true) && eqV (PySem.W.ks_superIn K C C "__init__") (some (some (.builtin ini))))
def kindB (K : PySem.W.Frag) (C : Addr) : Bool := kndB K C "ValueError" "ValueError.__new__" "ValueError.__init__" PySem.HandSPX.veTail || kndB K C "KeyError" "LookupError.__new__" "KeyError.__init__" PySem.KwX.keTail
theorem kindB_ok {K : PySem.W.Frag} {C : Addr} (h : kindB K C = true) : ∃ (B NB nw ini : String) (tail : List Value), PySem.KwX.BasF B NB nw ini tail ∧ (∃ nm q N bs bm sn sub ab col dd k0 k1 k2 k3 k5, K.lookup C = some (excClassObj nm q C N bs bm true sn sub ab col dd k0 k1 k2 k3 k5 nw) ∧ PySem.KwX.refsT tail bm = true) ∧
    PySem.W.subIn K (.ref C) (.type B) = some true ∧ PySem.W.ks_superIn K C C "__init__" = some (some (.builtin ini)) := by
  unfold kindB at h
  rw [Bool.or_eq_true] at h
  rcases h with h | h <;> (unfold kndB eqV at h; simp only [Bool.and_eq_true, decide_eq_true_eq] at h)
  · exact ⟨_, _, _, _, _, PySem.KwX.bas_VE, clsB_ok h.1, h.2.1, h.2.2⟩
  · exact ⟨_, _, _, _, _, PySem.KwX.bas_KE, clsB_ok h.1, h.2.1, h.2.2⟩
/-- all that an own error of one field must say -/
def supB (K : PySem.W.Frag) (file cn fld txt : Str) : Bool :=
  kindB K (He.ga K cn) && (funB K file fld txt (He.ga K cn) (He.ma K (He.ga K cn) "__init__") &&
  (eqV (PySem.W.findIn K (.ref (He.ga K cn)) "__setattr__") (some (some (.builtin "object.__setattr__"))) &&
  (eqV (PySem.W.findIn K (.ref (He.ga K cn)) "__getattribute__") (some (some (.builtin "BaseException.__getattribute__"))) &&
  (eqV (PySem.W.findIn K (.ref (He.ga K cn)) "__getattr__") (some none) &&
  (eqV (PySem.W.findIn K (.ref (He.ga K cn)) fld) (some none) &&
  (eqV (PySem.W.findIn K (.ref (He.ga K cn)) "__init__") (some (some (.ref (He.ma K (He.ga K cn) "__init__")))) &&
  (decide (PySem.W.typeIn K (.ref (He.ma K (He.ga K cn) "__init__")) = some (.type "function")) &&
  (PySem.W.keepIn K (.ref (He.ga K cn)) &&
  (decide (PySem.W.subIn K (.ref (He.ga K cn)) (.type "BaseException") = some true) &&
  (decide (PySem.W.typeIn K (.ref (He.ga K cn)) = some (.type "type")) &&
  (PySem.W.hasDictIn K (He.ga K cn) &&
  (decide (PySem.W.mroIn K (He.ga K cn) (.ref (He.ga K cn)) = some true) &&
  (eqV (PySem.W.nsIn K cStatics "thirdparty.any") (some none) &&
  ((PySem.W.clsIn K (He.ga K cn)).isSome &&
  (eqV (PySem.W.findIn K (.ref (He.ga K cn)) "__class__") (some (some (.builtin "object.__class__"))) &&
  (eqV (PySem.W.specialIn K (.builtin "object.__class__") "__get__") (some (some (.builtin "getset_descriptor.__get__"))) &&
  (decide (PySem.W.takesIn K (.builtin "object.__class__") = some true) &&
  decide (PySem.W.mroIn K (He.ga K cn) (.type "object") = some true))))))))))))))))))
/-- an own error class of one field -/
structure ErrD (P : Program) (K : PySem.W.Frag) (mg : Str → Option Value) (cn fld txt : Str) (C fI : Addr) : Prop where
  sup : PySem.KwX.SupTxt P K mg cn fld txt C fI
  fld_ : XfC K C
  isx : IsxC K C
theorem supB_ok {P : Program} {K : PySem.W.Frag} {mg : Str → Option Value} {file cn fld txt : Str} (h : supB K file cn fld txt = true) (gC : mg cn = some (.ref (He.ga K cn))) (free : mg "super" = none) (hf : P.main.file = file)
    (top : (P.main.scope.names.lookup ("super" : Str)).isSome = false) (size : txt.length ≤ sizeLine)
    (ne1 : ¬ fld = "self") (binds : ∀ (qual : Str) (kV doc pm : Value) (an : Option Addr) (cdv ct : Value) (cc : Addr) (j : Nat) (p1 p2 q1 q2 q3 q4 q5 q6 q7 q8 q9 q10 : Pos) (a v : Value), bindArgs (PySem.W.ksFn "__init__" qual (PySem.KwX.iA fld p1 p2) (PySem.KwX.iB fld txt j q1 q2 q3 q4 q5 q6 q7 q8 q9 q10) (PySem.KwX.iS fld) .none kV doc pm an cdv ct cc) ⟨[a, v], []⟩ = pure ([(PySem.Str.ofString "self", a), (fld, v)] : List (Str × Value)))
    (kin : (PySem.KwX.iS fld).names.lookup fld = some .local) (kSup : (PySem.KwX.iS fld).names.lookup ("super" : Str) = some .globalImplicit) (kCls : (PySem.KwX.iS fld).names.lookup ("__class__" : Str) = some .free) (ne2 : (fld == ("__debug__" : Str)) = false) :
    ErrD P K mg cn fld txt (He.ga K cn) (He.ma K (He.ga K cn) "__init__") := by
  unfold supB eqV at h
  simp only [Bool.and_eq_true, decide_eq_true_eq] at h
  obtain ⟨h1, h2, h3, h4, h5, h6, h7, h8, h9, h10, h12, h13, h15, h16, h17, h18, h19, h20, h21⟩ := h
  obtain ⟨oc, od, kV, doc, pm, an, ct, ccl, cdd, vs, ccs, osl, csl, cl, cld, tf, qual, cda, cc, j, p1, p2, q1, q2, q3, q4, q5, q6, q7, q8, q9, q10, f1, f2, f3, f4, f5, f6⟩ := funB_ok h2
  refine ⟨⟨gC, kindB_ok h1, h3, h4, h5, h6, h7, h8, h9, h10, h12, h13, ne1, binds, kin, kSup, kCls, size, ne2, h15, h16, free, top, ?_⟩, ⟨h4, h5, h10, h13⟩, ⟨h4, h5, h10, h17, h18, h19, h20, h21⟩⟩
  exact ⟨oc, od, kV, doc, pm, an, ct, ccl, cdd, vs, ccs, osl, csl, cl, cld, file, tf, qual, cda, cc, j, p1, p2, q1, q2, q3, q4, q5, q6, q7, q8, q9, q10, f1, f2, f3, f4, by rw [hf]; simp, f5, f6⟩
def exmB (K : PySem.W.Frag) (tab : ExT) : Bool := tab.all fun q => decide (PySem.W.exmOne K (.ref (He.ga K q.1.1)) (.ref (He.ga K q.1.2)) = some q.2)
theorem exmB_ok {K : PySem.W.Frag} {mg : Str → Option Value} {tab : ExT} (h : exmB K tab = true) (g : ∀ q ∈ tab, mg q.1.1 = some (.ref (He.ga K q.1.1)) ∧ mg q.1.2 = some (.ref (He.ga K q.1.2))) : TabOk K mg tab := fun x c b hm C D hC hD => by
  have q := of_decide_eq_true (List.all_eq_true.mp h _ hm)
  obtain ⟨g1, g2⟩ := g _ hm
  simp only at q g1 g2
  rw [g1] at hC
  rw [g2] at hD
  cases hC
  cases hD
  exact q
def asS (g : Addr → Option Obj) (n : Nat) : List Addr := cStatics :: He.asD g n
def obsS (n : Nat) (fa : List He.Fa) (fn : List He.DefD) (tf : List He.Defn) (ex : PySem.W.Frag → Bool) (g : Addr → Option Obj) : He.AlX := (He.obsT fa fn [] (He.frT g (asS g n)), ex (He.frT g (asS g n)) && He.tabsB g tf (He.frT g (asS g n)))
theorem saysS {fa : List He.Fa} {fn : List He.DefD} {tf : List He.Defn} {ex : PySem.W.Frag → Bool} {w : World} {h : Heap} {as : List Addr} (e1 : He.obsT fa fn [] (He.frT h.get? as) = He.valT fn [] w) (e2 : (ex (He.frT h.get? as) && He.tabsB h.get? tf (He.frT h.get? as)) = true) : He.SaysX fa fn [] tf ex w h (He.frT h.get? as) := by
  rw [Bool.and_eq_true] at e2
  have each : ∀ p ∈ tf, PySem.W.codeHdIn (He.frT h.get? as) (He.cT (He.frT h.get? as) p).1 (He.cT (He.frT h.get? as) p).2 = true ∧ ∃ o, h.get? (He.cT (He.frT h.get? as) p).2 = some o ∧ He.emptyTab o = true := fun p hp => by
    have q := List.all_eq_true.mp e2.2 p hp
    rw [Bool.and_eq_true] at q
    refine ⟨q.1, ?_⟩
    have q2 := q.2
    split at q2
    · next o e => exact ⟨o, e, q2⟩
    · cases q2
  refine ⟨e1, e2.1, fun p hp => (each p hp).1, fun p hp => ?_, fun p hp => ?_⟩
  · obtain ⟨_, o, e, z⟩ := each p hp
    exact He.frT_none e z
  · obtain ⟨_, o, e, z⟩ := each p hp
    rw [e, He.emptyTab_eq z]
def hookS (n : Nat) (fa : List He.Fa) (fn : List He.DefD) (tf : List He.Defn) (ex : PySem.W.Frag → Bool) : PySem.W.Hook where
  α := He.AlX
  obs := fun s => obsS n fa fn tf ex s.heap.get?
  val := fun w => He.valX fn [] w
  says := fun w h => ∃ K : PySem.W.Frag, K.In h ∧ He.SaysX fa fn [] tf ex w h K
  of := fun w s e => ⟨_, He.frT_in, saysS (congrArg (fun z : He.AlX => z.1) e) (congrArg (fun z : He.AlX => z.2) e)⟩
  keeps := fun w h h' ⟨K, hK, c⟩ k => ⟨K, PySem.W.Frag.In.keeps hK k, ⟨c.t, c.more, c.hd, c.out, fun p hp => k _ _ (c.empty p hp)⟩⟩
theorem obsS_eq {n : Nat} {fa : List He.Fa} {fn : List He.DefD} {tf : List He.Defn} {ex : PySem.W.Frag → Bool} {g : Addr → Option Obj} {s : Shared} (h : ∀ a, g a = s.heap.get? a) : obsS n fa fn tf ex g = (hookS n fa fn tf ex).obs s := by
  have e : g = s.heap.get? := funext h
  rw [e] <;> rfl
section
variable {P : Program} {w : World} {K : PySem.W.Frag} {mg : Str → Option Value} {base : Heap} {x qual : Str} {params : Arguments} {body : List Stmt} {scope : Scope} {dvs : List V} {kws : List (Str × V)} {f : Addr} {fd : FuncData}
theorem fnG_ofC {T : List (Addr × Str)} {N ps : List Str} {k n : Nat} {m : SM} {c : Addr} (F : FunD K x qual params body scope dvs kws f fd) (hc : fd.code = .ref c) (S : FnScope N ps scope) (hn : ps.length = n)
    (hbody : ∀ (A : Around) (outer : List Env) (s : Shared) (H : Hp) (E : XK), Room k (A.deeper (envOfC qual scope s.heap.objs.size f (.ref c))) → (A.deeper (envOfC qual scope s.heap.objs.size f (.ref c))).guards = some [] → Takes (cxOf (L2.CX P w) P w K mg base N qual scope f (.ref c) A outer s H E) (fun c d _ H => E c d H) →
      PSs (cxOf (L2.CX P w) P w K mg base N qual scope f (.ref c) A outer s H E) body (tS K mg { T := T } (fun c d _ H => E c d H) m)) : FnG P w K mg base (k + 1) f fd ps (spM K mg T n (bodyM N.length m)) := by
  obtain ⟨oc, od, dV, kV, doc, pm, an, cdv, ct, osl, rfl, lk, hcd, _, _⟩ := F.ex
  have e : cdv = .ref c := hc
  subst e
  have len : ∀ vs H Q E, spM K mg T n (bodyM N.length m) vs H Q E → vs.length = ps.length := fun vs H Q E h => h.1.trans hn.symm
  refine ⟨len, fun A outer s H args us vs Q E hr hgd e0 hb r hsp => ?_⟩
  have hl := len _ _ _ _ hsp
  have KX : K.In s.heap := e0.mod.kin.keeps fun b o e => (e0.bs b o e).1
  have lim : s.heap.NoLimit := e0.mod.nolimit.keeps fun b o e => (e0.bs b o e).1
  have kinds : ∀ y ∈ ps.zip us, scope.names.lookup y.1 = some .local ∨ (scope.names.lookup y.1 = some .cell ∧ ((cellsFrom (s.heap.objs.size + 1) scope.names []).lookup y.1).isSome = true) := fun ⟨n, v⟩ hy =>
    (S.par n (List.of_mem_zip hy).1).imp id fun q => ⟨q, PySem.W.cellsFrom_some _ _ _ (.inl q)⟩
  refine codeAny_call_function hr.depth (KX _ _ lk) rfl S.co S.gen rfl (PySem.W.codeRec_of KX hcd) (hb _ _ _ _ ?_)
  refine wpAny_newFunctionEnv_cells S.kind kinds fun env he s1 x => ?_
  subst he
  refine ⟨lim.keeps x.toInCall.keep, codeAny_func ?_⟩
  have ht := hbody A outer s H E (hr.deeper _) hgd (takes_of rfl rfl rfl rfl)
  have I : Inv (cxOf (L2.CX P w) P w K mg base N qual scope f (.ref c) A outer s H E) [] (L2.start N vs) H s1 := inv_start S hr.hd e0 hl r x
  obtain ⟨_, wd, μ, ds, rm, rs, hm⟩ := hsp
  have hq : tS K mg { T := T } (fun c d _ H => E c d H) m { nx := fun _ H' => Q .non H', rt := Q } (L2.start N vs) H := by
    refine ⟨wd, _, μ, RelSv.start N rs, rm, ?_⟩
    unfold bodyM at hm
    generalize m (ds.map some ++ List.replicate (N.length - ds.length) none) μ = o at hm ⊢
    cases o with
    | ret d μ' => exact hm
    | nx δ μ' => exact fun w' σ H' le rm' _ => hm w' .non H' le rm' .non
    | exc x δ μ' => exact fun w' c d σ H' le rm' _ rx => hm w' c d H' le rm' rx
    | bk δ μ' => exact hm.elim
    | ct δ μ' => exact hm.elim
    | stuck => exact hm.elim
  refine wpAny_mono (ht.run [] s1 (L2.start N vs) H _ I hq) (fun fl s' hs => ?_) fun e s' hs => hs
  cases fl with
  | ret u =>
    obtain ⟨v, τ, G, J, rv, q⟩ := hs
    exact ⟨v, G, J.os, J.bare, J.base, J.hok, rv, q⟩
  | next =>
    obtain ⟨τ, G, J, q⟩ := hs
    exact ⟨V.non, G, J.os, J.bare, J.base, J.hok, rfl, q⟩
  | brk =>
    obtain ⟨_, _, _, q⟩ := hs
    exact False.elim q
  | cont =>
    obtain ⟨_, _, _, q⟩ := hs
    exact False.elim q
theorem code_ref (F : FunD K x qual params body scope dvs kws f fd) (hf : f = He.fAd K (x, none)) : fd.code = .ref (He.codeOf K (x, none)) := by
  obtain ⟨oc, od, dV, kV, doc, pm, an, cdv, ct, osl, rfl, lk, hcd, _, _⟩ := F.ex
  obtain ⟨c, rfl⟩ := He.codeIn_ref hcd
  subst hf
  rw [He.codeOf_eq lk rfl]
end
theorem HrdD.mk' {P : Program} {w : World} {K : PySem.W.Frag} {mg : Str → Option Value} {base : Heap} {T : List (Addr × Str)} {x a : Str} {st : Stmt} {g : Addr} {fd : FuncData} {N : List Str} {m : AskM → SM} (F : FnP K x st g fd) (hm : mg x = some (.ref g)) (S : FnScope N [a] (defScope st)) (h0 : N[0]? = some a) (hv : Vis (defScope st) a)
    (hb : ∀ (kV doc pm : Value) (an : Option Addr) (cdv ct : Value) (us : List Value), us.length = [a].length → bindArgs (PySem.W.fnOf x x (defArgs st) (defBody st) (defScope st) .none kV doc pm an cdv ct) ⟨us, []⟩ = pure ([a].zip us))
    (h : ∀ (ask : AskM) (A : Around) (outer : List Env) (s : Shared) (H : Hp) (cd : Value) (lam : V) (w0 : Wd), Room 1 (A.deeper (envOfC x (defScope st) s.heap.objs.size g cd)) → A.guards = some [] →
      (∀ (E : XK) (pn : List (Addr × Obj)) (xe : Value → Shared → Prop) (p1 p2 : Pos), Takes ((cxOf C8.CX0 P w K mg base N x (defScope st) g cd A outer s H C8.E0).tr pn xe) (WU E) →
        PE ((cxOf C8.CX0 P w K mg base N x (defScope st) g cd A outer s H C8.E0).tr pn xe) (.Call (.Name a p1) [] [] p2) (tE K mg { T := T, lam := lam, w0 := w0 } (WU E) (eAsk ask))) →
      PSs (cxOf C8.CX0 P w K mg base N x (defScope st) g cd A outer s H C8.E0).nox (defBody st) (tS K mg { T := T, lam := lam, w0 := w0 } W0 (m ask))) :
    HrdD P w K mg base T x st a (fun ask => bodyH N.length (m ask)) := ⟨g, fd, N, m, F, hm, S, h0, hv, F.bindsN hb, fun _ => rfl, h⟩
/-- the tables of several defs -/
def tabsB (K : PySem.W.Frag) (l : List (Str × Option Str)) : Bool := decide (((l.map (He.cT K)).map (·.2)).Nodup)
end Kw
set_option Elab.async false
set_option linter.all false
set_option maxRecDepth 100000
namespace Kw
open PySem PySem.Spec PyProof.Rows L2
theorem u200m {k : Nat} {A : Around} {h : Option Value} (r : Room k A) : (A.mark h).units + 200 < cLine := by
  have := r.un
  show A.units + 200 < _
  omega
end Kw
set_option Elab.async false
set_option linter.all false
set_option maxRecDepth 100000
namespace Kw
open PySem PySem.Spec PyProof.Rows L2
section
variable {δ : Sv} {μ : Mem} {d : D}
@[simp] theorem eChn_run {g g' : D → D → Mem → Option D} {ma mb mc : EM} : eChn g g' ma mb mc δ μ = (ma δ μ).bind fun x μ1 => (mb δ μ1).bind fun y μ2 => match g x y μ2 with
  | some (.bl k) => if k = true then (mc δ μ2).bind fun z μ3 => oOf (g' y z μ3) μ3 else .ok (.bl false) μ2
  | _ => .stuck := nr rfl
@[simp] theorem eNewRep_run {ma mb : EM} : eNewRep ma mb δ μ = (ma δ μ).bind fun x μ1 => (mb δ μ1).bind fun y μ2 => match repL x y with
  | some ys => .ok (.loc μ2.length) (μ2 ++ [.lst ys])
  | none => .stuck := nr rfl
@[simp] theorem eLcN_run {pl : Bool} {mi : NM} {g : GM} {mt : TM} {me : EM} {vs : List Nat} : eLcN pl mi g mt me vs δ μ = (mi δ μ).bind fun p μ1 => match lcN p.1 g mt me (wipeD δ vs) p.2 0 μ1 with
  | .ok ys μ2 => if ys.length ≤ sizeLine then (if pl = true then .ok (.loc μ2.length) (μ2 ++ [.lst ys]) else .ok (.lst ys) μ2) else .stuck
  | _ => .stuck := nr rfl
@[simp] theorem iZip2_run {mr : AM} : iZip2 mr δ μ = (mr δ μ).bind fun xs μ1 => match xs with
  | [x, y] => match seqV x, seqV y with
    | some a, some b => .ok (zipD a b) μ1
    | _, _ => .stuck
  | _ => .stuck := nr rfl
@[simp] theorem iEnu_run {mr : AM} : iEnu mr δ μ = (mr δ μ).bind fun xs μ1 => match xs with
  | [x] => match seqV x with
    | some a => .ok (enumD 0 a) μ1
    | none => .stuck
  | _ => .stuck := nr rfl
@[simp] theorem iSeq_run {ma : EM} : iSeq ma δ μ = (ma δ μ).bind fun x μ1 => match seqV x with
  | some xs => .ok xs μ1
  | none => .stuck := nr rfl
@[simp] theorem gSeq_run {n : Nat} {gs : GsM} : gSeq n gs d δ μ = match seqOf μ d with
  | some xs => if xs.length = n then gs xs δ μ else .stuck
  | none => .stuck := nr rfl
@[simp] theorem gsCons_run {g : GM} {gs : GsM} {r : List D} : gsCons g gs (d :: r) δ μ = (g d δ μ).then (gs r) := nr rfl
@[simp] theorem gsNil_run : gsNil [] δ μ = .nx δ μ := nr rfl
@[simp] theorem seqV_tup {xs : List D} : seqV (.tup xs) = some xs := nr rfl
@[simp] theorem seqV_lst {xs : List D} : seqV (.lst xs) = some xs := nr rfl
@[simp] theorem seqOf_tup {xs : List D} : seqOf μ (.tup xs) = some xs := nr rfl
@[simp] theorem seqOf_lst {xs : List D} : seqOf μ (.lst xs) = some xs := nr rfl
@[simp] theorem lstOf_lst {xs : List D} : lstOf μ (.lst xs) = some xs := nr rfl
@[simp] theorem lstX_lst {xs : List D} : lstX μ (.lst xs) = some xs := nr rfl
@[simp] theorem gTuple_tup {xs : List D} : gTuple [.tup xs] μ = some (.tup xs) := nr rfl
@[simp] theorem gTuple_lst {xs : List D} : gTuple [.lst xs] μ = some (.tup xs) := nr rfl
@[simp] theorem gList_tup {xs : List D} : gList [.tup xs] μ = some (.lst xs) := nr rfl
@[simp] theorem gList_lst {xs : List D} : gList [.lst xs] μ = some (.lst xs) := nr rfl
@[simp] theorem gLen_tup {xs : List D} : gLen [.tup xs] μ = some (.int xs.length) := nr rfl
@[simp] theorem gLen_lst {xs : List D} : gLen [.lst xs] μ = some (.int xs.length) := nr rfl
@[simp] theorem gInt_bl {k : Bool} : gInt [.bl k] μ = some (.int (if k then 1 else 0)) := nr rfl
@[simp] theorem eHrd_run {F : AskM → Mem → Out D} {body : EM} : eHrd F body δ μ = match F (fun μ' => body δ μ') μ with
  | .ok d μ' => .ok d μ'
  | _ => .stuck := nr rfl
@[simp] theorem sRaise_run {cn fld : Str} {ma : EM} : sRaise cn fld ma δ μ = (ma δ μ).bindS δ fun d μ1 => .exc ⟨cn, [(fld, d)]⟩ δ μ1 := nr rfl
@[simp] theorem then_exc {x : Xn} {k : Sv → Mem → SOut} : (SOut.exc x δ μ).then k = .exc x δ μ := nr rfl
theorem szN {n : Nat} (h : n ≤ 1000000) : n ≤ sizeLine := by show _ ≤ 2 ^ 24; omega
end
theorem body_exc {N : Nat} {m : SM} {ds : List D} {μ μ' : Mem} {δ δ' : Sv} {x : Xn} (hδ : ds.map some ++ List.replicate (N - ds.length) none = δ) (h : m δ μ = .exc x δ' μ') : bodyM N m ds μ = .exc x μ' := by
  unfold bodyM
  rw [hδ, h]
theorem callP_exc {m : FM} {ds : List D} {μ μ' : Mem} {x : Xn} (h : m ds [] = .exc x μ') (hd : locBs false 0 ds = true) (hx : locBs false 0 (x.fs.map (·.2)) = true) : callP m ds μ = .exc x μ := by
  unfold callP
  rw [if_pos hd, h]
  simp only
  rw [if_pos hx]
/-- a box: n ints -/
def Bxn (n : Nat) (μ : Mem) (l : Nat) : Prop := ∃ xs : List Int, xs.length = n ∧ μ[l]? = some (.lst (xs.map D.int))
section
variable {n : Nat} {μ : Mem} {l : Nat}
theorem Bxn.app {b : Ob} (h : Bxn n μ l) : Bxn n (μ ++ [b]) l := by
  obtain ⟨xs, e, h⟩ := h
  exact ⟨xs, e, by rw [List.getElem?_append_left (List.getElem?_eq_some_iff.mp h).1]; exact h⟩
theorem Bxn.set {i : Nat} {b : Ob} (h : Bxn n μ l) (hi : i ≠ l) : Bxn n (μ.set i b) l := by
  obtain ⟨xs, e, h⟩ := h
  exact ⟨xs, e, by rw [List.getElem?_set_ne hi]; exact h⟩
theorem Bxn.lt (h : Bxn n μ l) : l < μ.length := by
  obtain ⟨xs, e, h⟩ := h
  exact (List.getElem?_eq_some_iff.mp h).1
theorem Bxn.two (h : Bxn 2 μ l) : ∃ a b : Int, μ[l]? = some (.lst [.int a, .int b]) := by
  obtain ⟨xs, e, h⟩ := h
  match xs, e with
  | [a, b], _ => exact ⟨a, b, h⟩
theorem Bxn.same {μ' : Mem} (h : Bxn n μ l) (e : μ'[l]? = μ[l]?) : Bxn n μ' l := by
  obtain ⟨xs, e1, h⟩ := h
  exact ⟨xs, e1, e.trans h⟩
end
section
variable {μ : Mem} {l : Nat} {xs : List D} {x d : D}
theorem ixk {k : Nat} (h : μ[l]? = some (.lst xs)) (hk : xs[k]? = some x) : gIx (.loc l) (.int (k : Int)) μ = some x := by
  rw [ix_nat (xs := xs) (by simp [seqOf, lstOf, h]), hk]
theorem stk {k : Nat} (h : μ[l]? = some (.lst xs)) (hk : k < xs.length) : gSet (.loc l) (.int (k : Int)) d μ = some (μ.set l (.lst (xs.set k d))) := set_at h hk
end
theorem atI_in {α : Type} {xs : List α} {r : Int} (h0 : 0 ≤ r) (h1 : r < xs.length) : ∃ y, atI xs r = some y ∧ y ∈ xs := by
  have hn : r.toNat < xs.length := by omega
  refine ⟨xs[r.toNat], ?_, List.getElem_mem hn⟩
  unfold atI ixN
  rw [if_pos h0, if_pos (by omega)]
  exact List.getElem?_eq_getElem hn
theorem ix_scr {ns : List Int} {μ : Mem} {r : Int} (h0 : 0 ≤ r) (h1 : r < ns.length) : ∃ z, gIx (.scr (ns.map D.int)) (.int r) μ = some (.int z) := by
  obtain ⟨y, hy, hm⟩ := atI_in (xs := ns.map D.int) h0 (by simpa using h1)
  obtain ⟨z, _, rfl⟩ := List.mem_map.mp hm
  exact ⟨z, hy⟩
theorem len_scr {ns : List Int} {μ : Mem} : gLen [.scr (ns.map D.int)] μ = some (.int ns.length) := by simp [gLen, seqOf, lstOf]
theorem pow18 {μ : Mem} : gPow (.int 10) (.int 18) μ = some (.int 1000000000000000000) := rfl
/-- drawing -/
def TakeOk (n : Nat) (take : FM) : Prop := ∀ {μ : Mem} {l : Nat} {m : Int}, Bxn n μ l → 0 < m → m < 1073741824 → ∃ r μ', callM take [.loc l, .int m] μ = .ok (.int r) μ' ∧ 0 ≤ r ∧ r < m ∧ Bxn n μ' l ∧ Stay l μ μ'
/-- .. a natural number -/
theorem TakeOk.nat {n : Nat} {take : FM} (T : TakeOk n take) {μ : Mem} {l m : Nat} (hb : Bxn n μ l) (h0 : 0 < m) (h1 : m < 1073741824) : ∃ (r : Nat) (μ' : Mem), callM take [.loc l, .int (m : Int)] μ = .ok (.int (r : Int)) μ' ∧ r < m ∧ Bxn n μ' l ∧ Stay l μ μ' := by
  obtain ⟨r, μ', h, r0, r1, hb', st⟩ := T (m := (m : Int)) hb (by omega) (by omega)
  exact ⟨r.toNat, μ', by rw [h, Int.toNat_of_nonneg r0], by omega, hb', st⟩
def mPick (take : FM) : SM := sRet (e2 gIx (eVar 1) (eCallM take (aCons (eVar 0) (aCons (eAs gLen (aCons (eVar 1) aNil)) aNil))))
section
variable {n : Nat} {take : FM} {μ : Mem} {l : Nat} {xs : List D}
theorem pick_ok (T : TakeOk n take) {x : D} (hx : ∀ μ', Stay l μ μ' → seqOf μ' x = some xs) (hv : ∀ μ, vOf (some (some x)) μ = .ok x μ) (hn : ∀ μ', Stay l μ μ' → gLen [x] μ' = some (.int xs.length)) (hb : Bxn n μ l) (h0 : xs ≠ []) (h1 : xs.length < 1073741824) :
    ∃ y μ', callM (bodyM 2 (mPick take)) [.loc l, x] μ = .ok y μ' ∧ y ∈ xs ∧ Bxn n μ' l ∧ Stay l μ μ' := by
  have hp : 0 < xs.length := by cases xs with
    | nil => exact absurd rfl h0
    | cons a b => simp
  obtain ⟨r, μ', h, r0, r1, hb', hs⟩ := T (m := xs.length) hb (by omega) (by omega)
  obtain ⟨y, hy, hm⟩ := atI_in r0 r1
  have hl := hn μ (.refl l μ)
  have hq := hx μ' hs
  refine ⟨y, μ', callM_ok (body_ret (δ := [some (.loc l), some x]) rfl ?_) hs.1, hm, hb', hs⟩
  unfold mPick
  simp [eVar_run, hv, hl, h, gIx, hq, hy]
theorem pick_lst (T : TakeOk n take) (hb : Bxn n μ l) (h0 : xs ≠ []) (h1 : xs.length < 1073741824) : ∃ y μ', callM (bodyM 2 (mPick take)) [.loc l, .lst xs] μ = .ok y μ' ∧ y ∈ xs ∧ Bxn n μ' l ∧ Stay l μ μ' :=
  pick_ok T (x := .lst xs) (fun _ _ => rfl) (fun _ => rfl) (fun _ _ => by simp) hb h0 h1
end
end Kw
set_option Elab.async false
set_option linter.all false
set_option maxRecDepth 100000
namespace Kw
open PySem PySem.Spec PyProof.Rows L2
/-- depth, how much -/
inductive Sm : Nat → Nat → D → Prop
  | non {n w : Nat} : Sm n w .non
  | bl {n w : Nat} {b : Bool} : Sm n w (.bl b)
  | int {n w : Nat} {i : Int} (h : -999999999999 ≤ i ∧ i ≤ 999999999999) : Sm n w (.int i)
  | str {n w : Nat} {x : Str} (h : (PyData.showable (.str x) && PyData.leavesShort 13 (.str x) && PyData.strOk (PyData.shown (.str x)) && PyData.canLay0 (.str x) && decide (x.cps.size ≤ w)) = true) : Sm n w (.str x)
  | tup {n w W : Nat} {xs : List D} (h : ∀ x ∈ xs, Sm n w x) (hl : xs.length * (w + 1) ≤ W) : Sm (n + 1) W (.tup xs)
  | lst {n w W : Nat} {xs : List D} (h : ∀ x ∈ xs, Sm n w x) (hl : xs.length * (w + 1) ≤ W) : Sm (n + 1) W (.lst xs)
  | scr {n w W : Nat} {xs : List D} (h : ∀ x ∈ xs, Sm n w x) (hl : xs.length * (w + 1) ≤ W) : Sm (n + 1) W (.scr xs)
structure Shw (n w : Nat) (p : PyData) : Prop where
  sh : p.showable = true
  nd : p.hasDict = false
  dp : p.depth ≤ n
  bk : p.bulk ≤ w
  sl : p.leavesShort 13 = true
  cl : p.canLay0 = true
  ok : PyData.strOk p.shown = true
structure Shws (n w : Nat) (ps : List PyData) : Prop where
  sh : PyData.showableAll ps = true
  nd : PyData.hasDictAll ps = false
  dp : PyData.depthAll ps ≤ n
  bk : PyData.bulkAll ps ≤ w
  sl : PyData.leavesShortAll 13 ps = true
  cl : PyData.canLayAll0 ps = true
  ok : ∀ t ∈ PyData.shownAll ps, PyData.strOk t = true
theorem strOk_iff {x : Str} : PyData.strOk x = true ↔ ∀ c ∈ x.cps.toList, c < 0x110000 := by
  unfold PyData.strOk
  rw [← Array.all_toList, List.all_eq_true]
  simp
theorem strOk_lit (s : String) : PyData.strOk (Str.ofString s) = true := by
  rw [strOk_iff]
  intro c hc
  unfold Str.ofString at hc
  rw [cpsOfBytes_string] at hc
  simp only [List.mem_map] at hc
  obtain ⟨ch, _, rfl⟩ := hc
  have h := ch.valid
  simp only [UInt32.isValidChar, Nat.isValidChar] at h
  show ch.val.toNat < _
  omega
theorem strOk_app {x y : Str} (h1 : PyData.strOk x = true) (h2 : PyData.strOk y = true) : PyData.strOk (x ++ y) = true := by
  rw [strOk_iff] at *
  intro c hc
  rw [PySem.Str.cps_append, Array.toList_append, List.mem_append] at hc
  exact hc.elim (h1 c) (h2 c)
theorem strOk_join {sep : Str} (hs : PyData.strOk sep = true) : ∀ {ts : List Str}, (∀ t ∈ ts, PyData.strOk t = true) → PyData.strOk (Str.join sep ts) = true
  | [], _ => strOk_lit ""
  | [t], h => h t (.head _)
  | t :: u :: r, h => by
    have e : Str.join sep (t :: u :: r) = t ++ sep ++ Str.join sep (u :: r) := rfl
    rw [e]
    exact strOk_app (strOk_app (h t (.head _)) hs) (strOk_join hs fun y hy => h y (.tail _ hy))
theorem shws_of {n w : Nat} : ∀ {xs : List D}, (∀ x ∈ xs, ∃ p, (∀ f, pyW f x = some p) ∧ Shw n w p) → ∃ ps, (∀ f, pyWs f xs = some ps) ∧ Shws n (xs.length * (w + 1)) ps
  | [], _ => ⟨[], fun _ => rfl, rfl, rfl, Nat.zero_le _, Nat.zero_le _, rfl, rfl, fun _ h => nomatch h⟩
  | x :: xs, h => by
    obtain ⟨p, e, q⟩ := h x (.head _)
    obtain ⟨ps, es, qs⟩ := shws_of (xs := xs) fun y hy => h y (.tail _ hy)
    refine ⟨p :: ps, fun f => by rw [pyWs, e f, es f], ?_, ?_, ?_, ?_, ?_, ?_, ?_⟩
    · rw [PyData.showableAll, q.sh, qs.sh]; rfl
    · rw [PyData.hasDictAll, q.nd, qs.nd]; rfl
    · rw [PyData.depthAll]; exact Nat.max_le.mpr ⟨q.dp, qs.dp⟩
    · rw [PyData.bulkAll, List.length_cons, Nat.succ_mul]; have := q.bk; have := qs.bk; omega
    · rw [PyData.leavesShortAll, q.sl, qs.sl]; rfl
    · rw [PyData.canLayAll0, q.cl, qs.cl]; rfl
    · intro t ht
      rw [PyData.shownAll_cons] at ht
      cases ht with
      | head => exact q.ok
      | tail _ ht => exact qs.ok t ht
theorem ok_list {ps : List PyData} (h : ∀ t ∈ PyData.shownAll ps, PyData.strOk t = true) : PyData.strOk (PyData.list ps).shown = true := by
  rw [PyData.shown_list]
  exact strOk_app (strOk_app (strOk_lit _) (strOk_join (strOk_lit _) h)) (strOk_lit _)
theorem ok_tuple {ps : List PyData} (h : ∀ t ∈ PyData.shownAll ps, PyData.strOk t = true) : PyData.strOk (PyData.tuple ps).shown = true := by
  rw [PyData.shown_tuple]
  exact strOk_app (strOk_app (strOk_lit _) (strOk_join (strOk_lit _) h)) (strOk_lit _)
theorem Sm.py {n w : Nat} {d : D} (h : Sm n w d) : ∃ p, (∀ f, pyW f d = some p) ∧ Shw n w p := by
  induction h with
  | non => exact ⟨.none, fun _ => rfl, rfl, rfl, Nat.zero_le _, Nat.zero_le _, rfl, rfl, by rw [PyData.shown_none]; exact strOk_lit _⟩
  | bl => exact ⟨.bool _, fun _ => rfl, rfl, rfl, Nat.zero_le _, Nat.zero_le _, rfl, rfl, by rw [PyData.shown_bool]; split <;> exact strOk_lit _⟩
  | @int n w i h =>
    have h13 := PyData.shown_int_le2 h.1 h.2
    refine ⟨.int i, fun _ => rfl, ?_, rfl, Nat.zero_le _, Nat.zero_le _, ?_, rfl, by rw [PyData.shown_int]; exact strOk_lit _⟩
    · rw [PyData.showable]
      have hn : i.natAbs < 2 ^ 1920 := by
        have : i.natAbs ≤ 2 ^ 40 := by have : (2:Nat) ^ 40 = 1099511627776 := by decide
                                       omega
        exact Nat.lt_of_le_of_lt this (Nat.pow_lt_pow_right (by decide) (by decide))
      by_cases h0 : i.natAbs = 0
      · rw [h0]; decide
      · exact decide_eq_true ((Nat.log2_lt h0).mpr hn)
    · rw [PyData.leavesShort]; exact decide_eq_true h13
  | @str n w x h =>
    simp only [Bool.and_eq_true, decide_eq_true_eq] at h
    exact ⟨.str x, fun _ => rfl, h.1.1.1.1, rfl, Nat.zero_le _, h.2, h.1.1.1.2, h.1.2, h.1.1.2⟩
  | @tup n w W xs _ hl ih =>
    obtain ⟨ps, e, q⟩ := shws_of ih
    exact ⟨.tuple ps, fun f => by rw [pyW, e f], by rw [PyData.showable, q.sh], by rw [PyData.hasDict, q.nd], by rw [PyData.depth]; exact Nat.succ_le_succ q.dp, by rw [PyData.bulk]; exact Nat.le_trans q.bk hl, by rw [PyData.leavesShort, q.sl], by rw [PyData.canLay0, q.cl], ok_tuple q.ok⟩
  | @lst n w W xs _ hl ih =>
    obtain ⟨ps, e, q⟩ := shws_of ih
    exact ⟨.list ps, fun f => by rw [pyW, e f], by rw [PyData.showable, q.sh], by rw [PyData.hasDict, q.nd], by rw [PyData.depth]; exact Nat.succ_le_succ q.dp, by rw [PyData.bulk]; exact Nat.le_trans q.bk hl, by rw [PyData.leavesShort, q.sl], by rw [PyData.canLay0, q.cl], ok_list q.ok⟩
  | @scr n w W xs _ hl ih =>
    obtain ⟨ps, e, q⟩ := shws_of ih
    exact ⟨.list ps, fun f => by rw [pyW, e f], by rw [PyData.showable, q.sh], by rw [PyData.hasDict, q.nd], by rw [PyData.depth]; exact Nat.succ_le_succ q.dp, by rw [PyData.bulk]; exact Nat.le_trans q.bk hl, by rw [PyData.leavesShort, q.sl], by rw [PyData.canLay0, q.cl], ok_list q.ok⟩
theorem Sm.repr {n w : Nat} {d : D} (h : Sm n w d) (hn : n ≤ 60) (hw : w ≤ 1048576) : ∃ s, PyData.strOk s = true ∧ ∀ μ, gRepr [d] μ = some (.str s) := by
  obtain ⟨p, e, q⟩ := h.py
  refine ⟨p.shown, q.ok, fun μ => ?_⟩
  have e' : pyOf μ d = some p := e _
  unfold gRepr
  simp only [e']
  exact if_pos ⟨q.sh, q.nd, Nat.le_trans q.dp (by omega), PyData.shown_fits_bulk (by decide) (by decide) q.sl (Nat.le_trans q.bk (by omega))⟩
theorem Sm.eqs {n w : Nat} {d : D} (h : Sm n w d) (hn : n ≤ 60) (μ : Mem) : eqD d d μ = some true := by
  obtain ⟨p, e, q⟩ := h.py
  have s : SeqAt.shaped p = true := by
    unfold SeqAt.shaped
    rw [q.cl, Bool.true_and]
    exact decide_eq_true (Nat.le_trans q.dp (by omega))
  unfold eqD pyOf
  rw [e]
  simp only [s, Bool.and_self, if_true]
  exact congrArg some (SeqAt.eqv_refl p q.cl)
theorem Sm.ne {n w : Nat} {d : D} (h : Sm n w d) (hn : n ≤ 60) (μ : Mem) : gNe d d μ = some (.bl false) := by
  unfold gNe
  rw [h.eqs hn]
  rfl
theorem Sm.eq {n w : Nat} {d : D} (h : Sm n w d) (hn : n ≤ 60) (μ : Mem) : gEq d d μ = some (.bl true) := by
  unfold gEq
  rw [h.eqs hn]
theorem str_nes {s : Str} (hs : PyData.strOk s = true) (μ : Mem) : gNe (.str s) (.str s) μ = some (.bl false) := by
  unfold gNe eqD pyOf
  simp only [pyW]
  have h1 : SeqAt.shaped (.str s) = true := by
    unfold SeqAt.shaped
    rw [PyData.canLay0, hs]
    rfl
  rw [h1]
  simp [PyData.eqv]
theorem Sm.mono {n w : Nat} {d : D} (h : Sm n w d) : ∀ {n' w' : Nat}, n ≤ n' → w ≤ w' → Sm n' w' d := by
  induction h with
  | non => exact fun _ _ => .non
  | bl => exact fun _ _ => .bl
  | int h => exact fun _ _ => .int h
  | str h =>
    intro n' w' _ hw
    simp only [Bool.and_eq_true, decide_eq_true_eq] at h
    exact .str (by simp only [Bool.and_eq_true, decide_eq_true_eq]; exact ⟨h.1, by omega⟩)
  | @tup n w W xs _ hl ih =>
    intro n' w' hn hw
    obtain ⟨m, rfl⟩ : ∃ m, n' = m + 1 := ⟨n' - 1, by omega⟩
    exact .tup (fun x hx => ih x hx (by omega) (Nat.le_refl w)) (by omega)
  | @lst n w W xs _ hl ih =>
    intro n' w' hn hw
    obtain ⟨m, rfl⟩ : ∃ m, n' = m + 1 := ⟨n' - 1, by omega⟩
    exact .lst (fun x hx => ih x hx (by omega) (Nat.le_refl w)) (by omega)
  | @scr n w W xs _ hl ih =>
    intro n' w' hn hw
    obtain ⟨m, rfl⟩ : ∃ m, n' = m + 1 := ⟨n' - 1, by omega⟩
    exact .scr (fun x hx => ih x hx (by omega) (Nat.le_refl w)) (by omega)
section
variable {δ : Sv} {μ : Mem} {x : Xn} {tab : ExT}
theorem tryU_exc {b : SM} {hs : List (Str × Nat × SM)} {δ' : Sv} {μ' : Mem} (h : b δ μ = .exc x δ' μ') : sTryU tab b hs δ μ = goH tab x hs (List.replicate δ.length none) μ' := by
  unfold sTryU
  rw [h]
theorem goH_ret {c : Str} {i : Nat} {m : SM} {r : List (Str × Nat × SM)} {d : D} {μ' : Mem} (h : tab.lookup (x.cls, c) = some true) (hn : δ.all noX = true) (hm : m (δ.set i (some (.exc x.cls x.fs))) μ = .ret d μ') : goH tab x ((c, i, m) :: r) δ μ = .ret d μ' := by
  rw [goH, h]
  simp only
  rw [if_pos hn, hm]
  rfl
@[simp] theorem eAsk_run {ask : AskM} {r : Sv} : eAsk ask (some .lam :: r) μ = ask μ := nr rfl
@[simp] theorem eFld_run {c f : Str} {i : Nat} : eFld c f i δ μ = match δ[i]? with
  | some (some (.exc c' fs)) => if c' = c then (match fs.lookup f with
      | some d => .ok d μ
      | none => .stuck) else .stuck
  | _ => .stuck := nr rfl
@[simp] theorem eIsX_run {c : Str} {b : Bool} {i : Nat} : eIsX c b i δ μ = match δ[i]? with
  | some (some (.exc c' fs)) => if c' = c then .ok (.bl b) μ else .stuck
  | _ => .stuck := nr rfl
theorem bodyH_ret {N : Nat} {m : SM} {d : D} {μ' : Mem} (h : m (some D.lam :: List.replicate (N - 1) none) μ = .ret d μ') : bodyH N m μ = .ok d μ' := by
  unfold bodyH
  rw [h]
end
end Kw
set_option Elab.async false
set_option linter.all false
set_option maxRecDepth 100000
namespace Kw
open PySem PySem.Spec PyProof.Rows L2
def isSeqD : D → Bool
  | .tup _ => true
  | .lst _ => true
  | _ => false
def itD : D → List D
  | .tup xs => xs
  | .lst xs => xs
  | _ => []
def belD (m : Int) : D → Bool
  | .int i => decide (0 ≤ i) && decide (i < m)
  | _ => false
inductive El : Nat → D → Prop
  | non {n : Nat} : El n .non
  | bl {n : Nat} {b : Bool} : El n (.bl b)
  | int {n : Nat} {i : Int} : El n (.int i)
  | str {n : Nat} {x : Str} (h : PyData.strOk x = true) : El n (.str x)
  | tup {n : Nat} {xs : List D} (h : ∀ x ∈ xs, El n x) : El (n + 1) (.tup xs)
  | lst {n : Nat} {xs : List D} (h : ∀ x ∈ xs, El n x) : El (n + 1) (.lst xs)
theorem els_of {n : Nat} : ∀ {xs : List D}, (∀ x ∈ xs, ∃ p, (∀ f, pyW f x = some p) ∧ p.depth ≤ n ∧ p.canLay0 = true) → ∃ ps, (∀ f, pyWs f xs = some ps) ∧ PyData.depthAll ps ≤ n ∧ PyData.canLayAll0 ps = true
  | [], _ => ⟨[], fun _ => rfl, Nat.zero_le _, rfl⟩
  | x :: xs, h => by
    obtain ⟨p, e, q1, q2⟩ := h x (.head _)
    obtain ⟨ps, es, r1, r2⟩ := els_of (xs := xs) fun y hy => h y (.tail _ hy)
    exact ⟨p :: ps, fun f => by rw [pyWs, e f, es f], by rw [PyData.depthAll]; exact Nat.max_le.mpr ⟨q1, r1⟩, by rw [PyData.canLayAll0, q2, r2]; rfl⟩
theorem El.py {n : Nat} {d : D} (h : El n d) : ∃ p, (∀ f, pyW f d = some p) ∧ p.depth ≤ n ∧ p.canLay0 = true := by
  induction h with
  | non => exact ⟨.none, fun _ => rfl, Nat.zero_le _, rfl⟩
  | bl => exact ⟨.bool _, fun _ => rfl, Nat.zero_le _, rfl⟩
  | int => exact ⟨.int _, fun _ => rfl, Nat.zero_le _, rfl⟩
  | str h => exact ⟨.str _, fun _ => rfl, Nat.zero_le _, by rw [PyData.canLay0, h]⟩
  | tup _ ih =>
    obtain ⟨ps, e, q1, q2⟩ := els_of ih
    exact ⟨.tuple ps, fun f => by rw [pyW, e f], by rw [PyData.depth]; exact Nat.succ_le_succ q1, by rw [PyData.canLay0, q2]⟩
  | lst _ ih =>
    obtain ⟨ps, e, q1, q2⟩ := els_of ih
    exact ⟨.list ps, fun f => by rw [pyW, e f], by rw [PyData.depth]; exact Nat.succ_le_succ q1, by rw [PyData.canLay0, q2]⟩
theorem El.eqs {n : Nat} {d : D} (h : El n d) (hn : n ≤ 60) (μ : Mem) : eqD d d μ = some true := by
  obtain ⟨p, e, q1, q2⟩ := h.py
  have s : SeqAt.shaped p = true := by
    unfold SeqAt.shaped
    rw [q2, Bool.true_and]
    exact decide_eq_true (Nat.le_trans q1 (by omega))
  unfold eqD pyOf
  rw [e]
  simp only [s, Bool.and_self, if_true]
  exact congrArg some (SeqAt.eqv_refl p q2)
theorem El.ne {n : Nat} {d : D} (h : El n d) (hn : n ≤ 60) (μ : Mem) : gNe d d μ = some (.bl false) := by
  unfold gNe
  rw [h.eqs hn]
  rfl
theorem El.ints {n : Nat} (zs : List Int) : ∀ x ∈ zs.map D.int, El n x := fun x hx => by
  obtain ⟨z, _, rfl⟩ := List.mem_map.mp hx
  exact .int
end Kw
set_option Elab.async false
set_option linter.all false
set_option maxRecDepth 100000
set_option maxHeartbeats 2000000
namespace HT
open PySem PySem.Spec PyProof.Rows
theorem noI_tuple_add : typeLookup (.type "tuple") (dunderI "add") = pure none := by rw [typeLookup_type, builtinLookup_eq_fast]; kernel_rfl
section
variable {prog : Program} {w : World} {A : Around} {E : Value → Shared → Prop} {s : Shared}
theorem iconcat_meets {T id : String} {B : Builtin} {a b : Value} {S : _root_.PySem.Spec} {Q : Value → Shared → Prop} (ha : s.TypeIs a T) (hb : s.TypeIs b T) (hno : typeLookup (.type T) (dunderI "add") = pure none)
    (hfill : fillsNumberSlot (.type T) "add" = pure false) (hseq : seqSlot? (.type T) "__add__" = pure (some (.builtin id))) (slot : Slot T "__add__" id)
    (entry : entryFor table id = some B) (args : argsOk id ⟨[a, b], []⟩) (g : Meets (B ⟨[a, b], []⟩) S) (h : S A (wants Q E) s) : wpAny (model prog w) A (inplaceOp .Add a b) Q E s :=
  wpAny_inplaceOp_concat ha hb hno hfill hseq (call_meets slot ha entry args g h)
theorem icat_tup {t b : Addr} {vs ws : List Value} {Q : Value → Shared → Prop} (ht : IsTup s.heap t vs.toArray) (hb : IsTup s.heap b ws.toArray)
    (h0 : vs = [] → Q (.ref b) s) (h1 : vs ≠ [] → ws = [] → Q (.ref t) s) (h2 : vs ≠ [] → ws ≠ [] → Q (.ref s.heap.objs.size) { s with heap := s.heap.push { cls := .type "tuple", data := .seq (vs ++ ws).toArray } })
    (hsz : vs.length + ws.length ≤ sizeLine) : wpAny (model prog w) A (inplaceOp .Add (.ref t) (.ref b)) Q E s := by
  obtain ⟨⟨cls, dd, data, sl⟩, ho, hc, n, hd⟩ := id ht
  obtain ⟨⟨cls2, dd2, data2, sl2⟩, ho2, hc2, n2, hd2⟩ := id hb
  simp only at hc hd hc2 hd2
  subst hc hd hc2 hd2
  have e : vs.toArray ++ ws.toArray = (vs ++ ws).toArray := by simp
  by_cases hv : vs = []
  · exact iconcat_meets ⟨_, ho, rfl⟩ ⟨_, ho2, rfl⟩ noI_tuple_add noFill_tuple_add seq_tuple_add PySem.F.slot_tuple_add PySem.F.entry_tuple_add (PySem.F.args_tuple_add_2 _ _)
      (tuple_addW0 t b vs.toArray ws.toArray n n2 dd dd2 sl sl2 (by simp [hv])) ⟨ho, ho2, h0 hv⟩
  · by_cases hw : ws = []
    · exact iconcat_meets ⟨_, ho, rfl⟩ ⟨_, ho2, rfl⟩ noI_tuple_add noFill_tuple_add seq_tuple_add PySem.F.slot_tuple_add PySem.F.entry_tuple_add (PySem.F.args_tuple_add_2 _ _)
        (tuple_addW1 t b vs.toArray ws.toArray n n2 dd dd2 sl sl2 (by simpa using hv) (by simp [hw])) ⟨ho, ho2, h1 hv hw⟩
    · refine iconcat_meets ⟨_, ho, rfl⟩ ⟨_, ho2, rfl⟩ noI_tuple_add noFill_tuple_add seq_tuple_add PySem.F.slot_tuple_add PySem.F.entry_tuple_add (PySem.F.args_tuple_add_2 _ _)
        (tuple_addW2 t b vs.toArray ws.toArray n n2 dd dd2 sl sl2 (by simpa using hv) (by simpa using hw) (by rw [List.size_toArray, List.size_toArray]; exact hsz)) ⟨ho, ho2, ?_⟩
      rw [e]
      exact h2 hv hw
end
end HT
namespace Kw
open PySem PySem.Spec PyProof.Rows L2
/-- a list or a tuple backwards -/
def gRevS : D → Mem → Option D
  | .tup xs, _ => some (.tup xs.reverse)
  | x, μ => gRevL x μ
theorem iop_catA {X : Cx} : OpR X (inplaceOp .Add) (rCatA X.K) := by
  intro pins s σ H x y v u Q I rx ry h
  obtain ⟨a, b, xs, ys, rfl, rfl, ha, hb, hz, q0, q1, q2⟩ := h
  cases rx
  cases ry
  obtain ⟨its, r1, p1, _⟩ := I.tuple ha
  obtain ⟨its2, r2, p2, _⟩ := I.tuple hb
  have l1 := r1.length
  have l2 := r2.length
  refine HT.icat_tup p1 p2 (fun e => ⟨.ref b, H, I, rfl, q0 (r1.nil_iff.mp e)⟩) (fun e1 e2 => ⟨.ref a, H, I, rfl, q1 (fun z => e1 (r1.nil_iff.mpr z)) (r2.nil_iff.mp e2)⟩) (fun e1 e2 => ?_) (by omega)
  refine ⟨.ref s.heap.objs.size, _, I.laid (t' := s.toks) (o := .tup (xs ++ ys)) (fun b ob q => Heap.get?_push_of_some _ q) (Nat.le_refl _) ?_, rfl, q2 (fun z => e1 (r1.nil_iff.mpr z)) (fun z => e2 (r2.nil_iff.mpr z)) _ (I.hok.fresh (Nat.le_refl _))⟩
  exact ⟨by rw [List.length_append]; omega, _, r1.append r2, IsTup.new _ _⟩
/-- i += j, t += u -/
def gAddJ : D → D → Mem → Option D
  | .int i, .int j, _ => some (.int (i + j))
  | .tup a, .tup b, _ => if a.length + b.length ≤ sizeLine then some (.tup (a ++ b)) else none
  | _, _, _ => none
theorem addJ_r {K : PySem.W.Frag} {mg : Str → Option Value} {T : List (Addr × Str)} {x y : V} {H : Hp} {Q : VK} (h : rD2 K mg T gAddJ x y H Q) : rI0 (fun i j => .int (i + j)) x y H Q ∨ rCatA K x y H Q := by
  obtain ⟨w, μ, dx, dy, d, r, rx, ry, e, q⟩ := h
  unfold gAddJ at e
  split at e
  · cases rx; cases ry; cases e
    exact .inl ⟨_, _, rfl, rfl, q.same r (.int _)⟩
  · split at e
    · next hl =>
      cases e
      obtain ⟨a, vs, rfl, h4, h5⟩ := tupOf_rel r rx rfl
      obtain ⟨b, us, rfl, h6, h7⟩ := tupOf_rel r ry rfl
      refine .inr ⟨a, b, vs, us, rfl, rfl, h4, h6, by rw [← h5.length, ← h7.length]; exact hl, fun e => ?_, fun _ e => ?_, fun _ _ => q.tup r (h5.append h7)⟩
      · subst e
        have := h5.length
        simp only [List.length_nil, List.length_eq_zero_iff] at this
        subst this
        exact q.same r ry
      · subst e
        have := h7.length
        simp only [List.length_nil, List.length_eq_zero_iff] at this
        subst this
        rw [List.append_nil] at q
        exact q.same r rx
    · cases e
  · cases e
@[simp] theorem gAddJ_int {i j : Int} {μ : Mem} : gAddJ (.int i) (.int j) μ = some (.int (i + j)) := nr rfl
theorem gAdd_tup {a b : List D} {μ : Mem} (h : a.length + b.length ≤ 1000000) : gAdd (.tup a) (.tup b) μ = some (.tup (a ++ b)) := if_pos (szN h)
@[simp] theorem gRevS_lst {a : List D} {μ : Mem} : gRevS (.lst a) μ = some (.lst a.reverse) := nr rfl
@[simp] theorem gRevS_tup {a : List D} {μ : Mem} : gRevS (.tup a) μ = some (.tup a.reverse) := nr rfl
def gLtA : D → D → Mem → Option D
  | .int i, .int j, _ => some (.bl (decide (i < j)))
  | .tup xs, .tup ys, _ => match intsOf xs, intsOf ys with
    | some a, some b => some (.bl (HT.lexLt a b))
    | _, _ => none
  | _, _, _ => none
@[simp] theorem gLtA_int {i j : Int} {μ : Mem} : gLtA (.int i) (.int j) μ = some (.bl (decide (i < j))) := nr rfl
def sPar3 (i j l : Nat) (ma : AM) : SM := fun δ μ => (ma δ μ).bindS δ fun ds μ1 => match ds with
  | [a, b, c] => .nx (((δ.set i (some a)).set j (some b)).set l (some c)) μ1
  | _ => .stuck
@[simp] theorem sPar3_run {i j l : Nat} {ma : AM} {δ : Sv} {μ : Mem} : sPar3 i j l ma δ μ = (ma δ μ).bindS δ fun ds μ1 => match ds with
  | [a, b, c] => .nx (((δ.set i (some a)).set j (some b)).set l (some c)) μ1
  | _ => .stuck := nr rfl
theorem GlD.str {K : PySem.W.Frag} {mg : Str → Option Value} {x z : Str} (h : ∃ t, mg x = some (.str z t)) : GlD K mg x (.str z) := by
  obtain ⟨t, h⟩ := h
  exact ⟨.str z, _, h, ⟨t, rfl⟩, fun w => .str z⟩
end Kw
set_option Elab.async false
set_option linter.all false
set_option maxRecDepth 100000
namespace Kw
open PySem PySem.Spec PyProof.Rows L2
abbrev oT (r : List Int) : D := .tup (r.map D.int)
abbrev oL (r : List Int) : D := .lst (r.map D.int)
section
variable {μ : Mem} {d : D}
def Oc (zs : List Int) : Prop := ∀ z ∈ zs, 0 ≤ z ∧ z < 256
/-- octets handed: a tuple or a list of such -/
inductive Oh (zs : List Int) : D → Prop
  | t : Oh zs (oT zs)
  | l : Oh zs (oL zs)
theorem Oh.len {zs : List Int} (h : Oh zs d) : gLen [d] μ = some (.int (zs.length : Int)) := by
  cases h <;> simp
/-- with nothing behind -/
def whole {α : Type} (zs : List Int) : Except Nat (α × Nat) → Except Nat α
  | .error e => .error e
  | .ok (v, b) => if b = zs.length then .ok v else .error b
end
end Kw
set_option Elab.async false
set_option linter.all false
set_option maxRecDepth 100000
set_option exponentiation.threshold 4000
namespace Kw
open PySem PySem.Spec PyProof.Rows L2
/-- depth, how much -/
inductive Sb : Nat → Nat → D → Prop
  | non {n w : Nat} : Sb n w .non
  | bl {n w : Nat} {b : Bool} : Sb n w (.bl b)
  | int {n w : Nat} {i : Int} (h : i.natAbs < 10 ^ 570) : Sb n w (.int i)
  | str {n w : Nat} {x : Str} (h : (PyData.showable (.str x) && PyData.leavesShort 580 (.str x) && PyData.strOk (PyData.shown (.str x)) && PyData.canLay0 (.str x) && decide (x.cps.size ≤ w)) = true) : Sb n w (.str x)
  | tup {n w W : Nat} {xs : List D} (h : ∀ x ∈ xs, Sb n w x) (hl : xs.length * (w + 1) ≤ W) : Sb (n + 1) W (.tup xs)
  | lst {n w W : Nat} {xs : List D} (h : ∀ x ∈ xs, Sb n w x) (hl : xs.length * (w + 1) ≤ W) : Sb (n + 1) W (.lst xs)
  | scr {n w W : Nat} {xs : List D} (h : ∀ x ∈ xs, Sb n w x) (hl : xs.length * (w + 1) ≤ W) : Sb (n + 1) W (.scr xs)
structure Shb (n w : Nat) (p : PyData) : Prop where
  sh : p.showable = true
  nd : p.hasDict = false
  dp : p.depth ≤ n
  bk : p.bulk ≤ w
  sl : p.leavesShort 580 = true
  cl : p.canLay0 = true
  ok : PyData.strOk p.shown = true
structure Shbs (n w : Nat) (ps : List PyData) : Prop where
  sh : PyData.showableAll ps = true
  nd : PyData.hasDictAll ps = false
  dp : PyData.depthAll ps ≤ n
  bk : PyData.bulkAll ps ≤ w
  sl : PyData.leavesShortAll 580 ps = true
  cl : PyData.canLayAll0 ps = true
  ok : ∀ t ∈ PyData.shownAll ps, PyData.strOk t = true
theorem shbs_of {n w : Nat} : ∀ {xs : List D}, (∀ x ∈ xs, ∃ p, (∀ f, pyW f x = some p) ∧ Shb n w p) → ∃ ps, (∀ f, pyWs f xs = some ps) ∧ Shbs n (xs.length * (w + 1)) ps
  | [], _ => ⟨[], fun _ => rfl, rfl, rfl, Nat.zero_le _, Nat.zero_le _, rfl, rfl, fun _ h => nomatch h⟩
  | x :: xs, h => by
    obtain ⟨p, e, q⟩ := h x (.head _)
    obtain ⟨ps, es, qs⟩ := shbs_of (xs := xs) fun y hy => h y (.tail _ hy)
    refine ⟨p :: ps, fun f => by rw [pyWs, e f, es f], ?_, ?_, ?_, ?_, ?_, ?_, ?_⟩
    · rw [PyData.showableAll, q.sh, qs.sh]; rfl
    · rw [PyData.hasDictAll, q.nd, qs.nd]; rfl
    · rw [PyData.depthAll]; exact Nat.max_le.mpr ⟨q.dp, qs.dp⟩
    · rw [PyData.bulkAll, List.length_cons, Nat.succ_mul]; have := q.bk; have := qs.bk; omega
    · rw [PyData.leavesShortAll, q.sl, qs.sl]; rfl
    · rw [PyData.canLayAll0, q.cl, qs.cl]; rfl
    · intro t ht
      rw [PyData.shownAll_cons] at ht
      cases ht with
      | head => exact q.ok
      | tail _ ht => exact qs.ok t ht
theorem Sb.py {n w : Nat} {d : D} (h : Sb n w d) : ∃ p, (∀ f, pyW f d = some p) ∧ Shb n w p := by
  induction h with
  | non => exact ⟨.none, fun _ => rfl, rfl, rfl, Nat.zero_le _, Nat.zero_le _, rfl, rfl, by rw [PyData.shown_none]; exact strOk_lit _⟩
  | bl => exact ⟨.bool _, fun _ => rfl, rfl, rfl, Nat.zero_le _, Nat.zero_le _, rfl, rfl, by rw [PyData.shown_bool]; split <;> exact strOk_lit _⟩
  | @int n w i h =>
    have h13 : (PyData.shown (.int i)).length ≤ 580 := by
      have e := int_text_length_le10 (k := 570) (by decide) h
      show (Str.ofString (toString i)).length ≤ 580
      rw [PySem.ofString_length]
      omega
    refine ⟨.int i, fun _ => rfl, ?_, rfl, Nat.zero_le _, Nat.zero_le _, ?_, rfl, by rw [PyData.shown_int]; exact strOk_lit _⟩
    · rw [PyData.showable]
      have hn : i.natAbs < 2 ^ 1920 := Nat.lt_trans h (by decide +kernel)
      by_cases h0 : i.natAbs = 0
      · rw [h0]; decide
      · exact decide_eq_true ((Nat.log2_lt h0).mpr hn)
    · rw [PyData.leavesShort]; exact decide_eq_true h13
  | @str n w x h =>
    simp only [Bool.and_eq_true, decide_eq_true_eq] at h
    exact ⟨.str x, fun _ => rfl, h.1.1.1.1, rfl, Nat.zero_le _, h.2, h.1.1.1.2, h.1.2, h.1.1.2⟩
  | @tup n w W xs _ hl ih =>
    obtain ⟨ps, e, q⟩ := shbs_of ih
    exact ⟨.tuple ps, fun f => by rw [pyW, e f], by rw [PyData.showable, q.sh], by rw [PyData.hasDict, q.nd], by rw [PyData.depth]; exact Nat.succ_le_succ q.dp, by rw [PyData.bulk]; exact Nat.le_trans q.bk hl, by rw [PyData.leavesShort, q.sl], by rw [PyData.canLay0, q.cl], ok_tuple q.ok⟩
  | @lst n w W xs _ hl ih =>
    obtain ⟨ps, e, q⟩ := shbs_of ih
    exact ⟨.list ps, fun f => by rw [pyW, e f], by rw [PyData.showable, q.sh], by rw [PyData.hasDict, q.nd], by rw [PyData.depth]; exact Nat.succ_le_succ q.dp, by rw [PyData.bulk]; exact Nat.le_trans q.bk hl, by rw [PyData.leavesShort, q.sl], by rw [PyData.canLay0, q.cl], ok_list q.ok⟩
  | @scr n w W xs _ hl ih =>
    obtain ⟨ps, e, q⟩ := shbs_of ih
    exact ⟨.list ps, fun f => by rw [pyW, e f], by rw [PyData.showable, q.sh], by rw [PyData.hasDict, q.nd], by rw [PyData.depth]; exact Nat.succ_le_succ q.dp, by rw [PyData.bulk]; exact Nat.le_trans q.bk hl, by rw [PyData.leavesShort, q.sl], by rw [PyData.canLay0, q.cl], ok_list q.ok⟩
theorem Sb.repr {n w : Nat} {d : D} (h : Sb n w d) (hn : n ≤ 60) (hw : w ≤ 28000) : ∃ s, PyData.strOk s = true ∧ ∀ μ, gRepr [d] μ = some (.str s) := by
  obtain ⟨p, e, q⟩ := h.py
  refine ⟨p.shown, q.ok, fun μ => ?_⟩
  have e' : pyOf μ d = some p := e _
  unfold gRepr
  simp only [e']
  exact if_pos ⟨q.sh, q.nd, Nat.le_trans q.dp (by omega), by
    have h := PyData.shown_le_bulk 580 (by decide) p q.sl
    have h2 : (580 + 2) * p.bulk ≤ 582 * 28000 := Nat.mul_le_mul (by omega) (Nat.le_trans q.bk hw)
    rw [sizeLine_eq]
    omega⟩
theorem Sb.eqs {n w : Nat} {d : D} (h : Sb n w d) (hn : n ≤ 60) (μ : Mem) : eqD d d μ = some true := by
  obtain ⟨p, e, q⟩ := h.py
  have s : SeqAt.shaped p = true := by
    unfold SeqAt.shaped
    rw [q.cl, Bool.true_and]
    exact decide_eq_true (Nat.le_trans q.dp (by omega))
  unfold eqD pyOf
  rw [e]
  simp only [s, Bool.and_self, if_true]
  exact congrArg some (SeqAt.eqv_refl p q.cl)
theorem Sb.ne {n w : Nat} {d : D} (h : Sb n w d) (hn : n ≤ 60) (μ : Mem) : gNe d d μ = some (.bl false) := by
  unfold gNe
  rw [h.eqs hn]
  rfl
theorem Sb.eq {n w : Nat} {d : D} (h : Sb n w d) (hn : n ≤ 60) (μ : Mem) : gEq d d μ = some (.bl true) := by
  unfold gEq
  rw [h.eqs hn]
theorem Sb.ints {n w : Nat} {zs : List Int} (h : ∀ z ∈ zs, 0 ≤ z ∧ z < 256) (hw : zs.length ≤ w) : Sb (n + 1) w (oT zs) := .tup (w := 0) (fun x hx => by
  obtain ⟨z, hz, rfl⟩ := List.mem_map.mp hx
  have := h z hz
  exact .int (Nat.lt_of_lt_of_le (show z.natAbs < 1000 by omega) (by decide +kernel))) (by simpa using hw)
end Kw
set_option Elab.async false
set_option linter.all false
set_option maxRecDepth 100000
namespace Kw
open PySem PySem.Spec PyProof.Rows L2
section
variable {X : Cx} {S : SI} {W : WX} {C a : Addr} {cls : Value} {d : Option Addr} {oe : Obj} {pn : List (Addr × Obj)} {c n : Str} {b : Bool} {i : Nat} {p p1 p2 pos : Pos} {bn : String} {e2 : Expr}
def rIsXb (K : PySem.W.Frag) (C a : Addr) (cls : Value) (d : Option Addr) (bn : String) : List V → Hp → VK → Prop := fun xs H Q => ∃ (b : Bool) (dd : Addr) (gs : List (Str × V)), xs = [.ref a, .ty bn] ∧ cls = .ref C ∧ d = some dd ∧ H dd = some (.xd gs) ∧ PySem.W.kitOne K (.ref C) (.type bn) = some b ∧ Q (.bl b) H
theorem call_isXb (T : IsxC X.K C) (hz : Zc cls d oe) (hd : ∃ vs, oe.data = .fields vs) : L2.CallR (X.suite a ((a, oe) :: pn)) (.builtin "isinstance") (rIsXb X.K C a cls d bn) := by
  intro pins s τ H xs us Q I r h
  obtain ⟨b, dd, gs, rfl, rfl, rfl, ea, kit, q⟩ := h
  obtain ⟨u1, u2, rfl, ru1, ru2⟩ : ∃ u1 u2, us = [u1, u2] ∧ L2.RelV (.ref a) u1 ∧ L2.RelV (.ty bn) u2 := by
    cases r with
    | cons x1 r =>
      cases r with
      | cons x2 r =>
        cases r
        exact ⟨_, _, rfl, x1, x2⟩
  obtain rfl : u1 = Value.ref a := ru1
  obtain rfl : u2 = Value.type bn := ru2
  obtain ⟨hget, _⟩ := I.pin (a, oe) (List.mem_append_left _ List.mem_cons_self)
  obtain ⟨vs, hv⟩ := hd
  obtain ⟨mA, hns, _⟩ := I.hok dd _ ea
  obtain ⟨od, ho, _⟩ := lookIn_ns hns
  have J : PySem.W.InstAt s.heap a oe C (some od) := ⟨hget, hz.1, by unfold PySem.W.notCls; rw [hv] <;> rfl, by rw [hz.2]; exact ho⟩
  exact PySem.W.kia_one (PySem.W.kitx_exc T.cl T.ga T.gg T.sb T.at_ T.sp T.tk T.mo) I.kIn J kit (fun z => nomatch z) fun tk => ⟨.bl b, H, I.kept (t' := tk) fun _ _ z => z, rfl, q⟩
theorem pe_isXb (T : IsxC X.K C) (hm : X.mg c = some (.ref C)) (kit : PySem.W.kitOne X.K (.ref C) (.type bn) = some b) (hz : Zc cls d oe) (hd : ∃ vs, oe.data = .fields vs) (hN : X.N[i]? = some n) (hv : Vis X.env.scope n)
    (hgi : Gl X "isinstance") (hmi : X.mg "isinstance" = none) (hT : PE (X.suite a ((a, oe) :: pn)) e2 (tC (.ty bn))) (h1 : (n == ("__debug__" : Str)) = false := by decide) (h2 : (n == ("__classdict__" : Str)) = false := by decide)
    (he : starEach [.Name n p1, e2] X.env = (false, eval (.Name n p1) X.env) :: starEach [e2] X.env := by rfl) (hpl : (backTo pos (starEach [e2] X.env)).any (·.1) = false := by rfl) (he2 : starEach [e2] X.env = (false, eval e2 X.env) :: starEach [] X.env := by rfl) :
    PE (X.suite a ((a, oe) :: pn)) (.Call (.Name "isinstance" p) [.Name n p1, e2] [] pos) (tE X.K X.mg (S.hold a cls d) W (eIsX c b i)) :=
  PEi (pe_callB (call_isXb (bn := bn) T hz hd) hgi hmi (by decide +kernel) (pa_cons (pe_var (X := X.suite a ((a, oe) :: pn)) hN hv h1 h2) (pa_cons hT pa_nil he2) he) (by decide) (by decide) he hpl) fun τ H Q ⟨w, δ, μ, h⟩ => by
    have h3 := h.2.2
    unfold eIsX at h3
    split at h3
    · next c' fs e =>
      split at h3
      · next ec =>
        subst ec
        obtain ⟨v, hv, e1, CC, dd, gs, g1, g2, g3, g4, g5⟩ := h.1.2 i _ e
        rw [hm] at g1
        cases g1
        refine ⟨v, hv, b, dd, gs, by rw [e1]; rfl, g2, g3, h.2.1.φ _ _ g4, kit, ?_⟩
        exact h3 w (.bl b) H (Wd.Le.refl _) h.2.1 (.bl b)
      · exact h3.elim
    · exact h3.elim
end
theorem u1 {k : Nat} {A : Around} (r : Room k A) : A.units + 1 < cLine := by have := r.un; omega
/-- the head's word of it -/
def kitBb (K : PySem.W.Frag) (x : Str) (bn : String) (b : Bool) : Bool := decide (PySem.W.kitOne K (.ref (He.ga K x)) (.type bn) = some b)
theorem kitBb_ok {K : PySem.W.Frag} {x : Str} {bn : String} {b : Bool} (h : kitBb K x bn b = true) : PySem.W.kitOne K (.ref (He.ga K x)) (.type bn) = some b := of_decide_eq_true h
end Kw
set_option Elab.async false
set_option linter.all false
set_option maxRecDepth 100000
set_option exponentiation.threshold 4000
namespace Kw
open PySem PySem.Spec PyProof.Rows L2
structure Cod (α : Type) (L : Nat) (enc : α → List Int) (dec : List Int → Nat → Except Nat (α × Nat)) (ok : α → Prop) : Prop where
  there : ∀ v, ok v → ∀ A B : List Int, dec (A ++ enc v ++ B) A.length = .ok (v, A.length + (enc v).length)
  only : ∀ zs a v b, Oc zs → zs.length ≤ L → dec zs a = .ok (v, b) → ok v ∧ a ≤ b ∧ b ≤ zs.length ∧ (zs.drop a).take (b - a) = enc v
section
variable {α : Type} {L : Nat} {enc : α → List Int} {dec : List Int → Nat → Except Nat (α × Nat)} {ok : α → Prop}
theorem Cod.start (C : Cod α L enc dec ok) {v : α} (h : ok v) (B : List Int) : dec (enc v ++ B) 0 = .ok (v, (enc v).length) := by
  have := C.there v h [] B
  simpa using this
/-- no form begins another -/
theorem Cod.inj (C : Cod α L enc dec ok) {v u : α} (h : ok v) (hu : ok u) {B : List Int} (e : enc u = enc v ++ B) : u = v ∧ B = [] := by
  have h1 := C.start h B
  have h2 := C.start hu []
  rw [List.append_nil, e, h1] at h2
  simp only [Except.ok.injEq, Prod.mk.injEq] at h2
  refine ⟨h2.1.symm, ?_⟩
  have h3 := h2.2
  rw [List.length_append] at h3
  exact List.eq_nil_of_length_eq_zero (by omega)
end
end Kw
set_option Elab.async false
set_option linter.all false
set_option maxRecDepth 100000
set_option exponentiation.threshold 4000
namespace Kw
open PySem PySem.Spec PyProof.Rows L2
/-- what d is, as a library's value; ints, tuples of ints, tuples of these -/
theorem eqvAll_ints : ∀ a b : List Int, PyData.eqvAll (a.map .int) (b.map .int) = (a == b)
  | [], [] => by rw [List.map_nil, PyData.eqvAll]; rfl
  | [], b :: bs => by rw [List.map_nil, List.map_cons, PyData.eqvAll]; rfl
  | a :: as, [] => by rw [List.map_nil, List.map_cons, PyData.eqvAll]; rfl
  | a :: as, b :: bs => by
    rw [List.map_cons, List.map_cons, PyData.eqvAll, eqvAll_ints as bs, List.cons_beq_cons]
    rfl
theorem pyWs_ints (f : Nat → Option PyData) : ∀ a : List Int, pyWs f (a.map D.int) = some (a.map .int)
  | [] => rfl
  | a :: as => by rw [List.map_cons, pyWs, pyWs_ints f as]; rfl
theorem pyW_oT (f : Nat → Option PyData) (a : List Int) : pyW f (oT a) = some (.tuple (a.map .int)) := by
  rw [pyW, pyWs_ints]
theorem can_ints : ∀ a : List Int, PyData.canLayAll0 (a.map .int) = true
  | [] => rfl
  | a :: as => by rw [List.map_cons, PyData.canLayAll0, can_ints as]; rfl
theorem dep_ints : ∀ a : List Int, PyData.depthAll (a.map .int) = 0
  | [] => rfl
  | a :: as => by rw [List.map_cons, PyData.depthAll, dep_ints as]; rfl
theorem shp_ints (a : List Int) : SeqAt.shaped (.tuple (a.map .int)) = true := by
  unfold SeqAt.shaped
  rw [PyData.canLay0, can_ints, PyData.depth, dep_ints]
  rfl
section
variable {μ : Mem}
theorem eqD_oT (a b : List Int) : eqD (oT a) (oT b) μ = some (a == b) := by
  unfold eqD pyOf
  rw [pyW_oT, pyW_oT]
  simp only [shp_ints, Bool.and_self, if_true]
  rw [PyData.eqv, eqvAll_ints]
theorem gNe_oT (a b : List Int) : gNe (oT a) (oT b) μ = some (.bl !(a == b)) := by unfold gNe; rw [eqD_oT]
end
end Kw
set_option Elab.async false
set_option linter.all false
set_option maxRecDepth 100000
namespace Kw
open PySem PySem.Spec PyProof.Rows L2
end Kw
set_option Elab.async false
set_option linter.all false
set_option maxRecDepth 100000
set_option maxHeartbeats 2000000
namespace Kw
open PySem PySem.Spec PyProof.Rows L2
end Kw
set_option Elab.async false
set_option linter.all false
set_option maxRecDepth 100000
namespace Kw
open PySem PySem.Spec PyProof.Rows L2
/-- class, field: plain fields of instances -/
abbrev FlT := List (Str × Str)
def hasF (tab : FlT) (c f : Str) : Bool := tab.any fun q => decide (q.1 = c) && decide (q.2 = f)
def putD (f : Str) (v : D) : List (Str × D) → List (Str × D)
  | [] => [(f, v)]
  | (g, x) :: r => if g = f then (g, v) :: r else (g, x) :: putD f v r
/-- what instance an object is -/
def insOf (μ : Mem) : D → Option (Str × List (Str × D))
  | .ins c ns xs => some (c, ns.zip xs)
  | .loc l => match μ[l]? with
    | some (.ins c fs) => some (c, fs)
    | _ => none
  | _ => none
def gFldSet (tab : FlT) (f : Str) : D → D → Mem → Option Mem
  | .loc l, v, μ => match μ[l]? with
    | some (.ins c fs) => if hasF tab c f = true ∧ fs.length < 1000 then some (μ.set l (.ins c (putD f v fs))) else none
    | _ => none
  | _, _, _ => none
section
variable {K : PySem.W.Frag} {mg : Str → Option Value} {w w' : Wd} {T : List (Addr × Str)} {μ : Mem} {H : Hp}
theorem zip_fst {α β : Type} : ∀ {ns : List α} {xs : List β}, ns.length = xs.length → (ns.zip xs).map (·.1) = ns ∧ (ns.zip xs).map (·.2) = xs
  | [], [], _ => ⟨rfl, rfl⟩
  | a :: ns, b :: xs, h => by
    obtain ⟨i1, i2⟩ := zip_fst (ns := ns) (xs := xs) (by simpa using h)
    exact ⟨by simp [i1], by simp [i2]⟩
/-- the memory is the same where something lies that nobody tracks -/
theorem RelM.ext (r : RelM K mg T w μ H) {p : Addr} {o : HO} (hp : H p = none) : RelM K mg T w μ (upd H p o) := by
  have old : ∀ {a u}, H a = some u → upd H p o a = some u := fun {a u} e => by rw [upd_ne (ne_of_none e hp)]; exact e
  obtain ⟨f1, f2, fg, f3⟩ := r.free hp
  refine ⟨r.n, fun a u h => old (r.φ a u h), fun a u h => old (r.fr a u h), fun a u h => old (r.gr a u h), r.dj, r.dg, fun l b hb => ?_, r.gn, r.inj, tabs_upd r.tabs hp, r.lo_upd hp, r.nt⟩
  obtain ⟨h1, h2⟩ := r.ob l b hb
  have hl : l < w.n := by rw [r.n]; exact (List.getElem?_eq_some_iff.mp hb).1
  rw [upd_ne (f3 l hl)]
  exact ⟨h1, h2⟩
end
section
variable {X : Cx} {S : SI} {W : WX} {o e value : Expr} {f : Str} {pos pos' tpos : Pos} {mo mv : EM} {tab : FlT}
/-- o.f = value -/
def sFldM (tab : FlT) (f : Str) (mo mv : EM) : SM := fun δ μ => (mv δ μ).bindS δ fun v μ1 => (mo δ μ1).bindS δ fun o μ2 => match gFldSet tab f o v μ2 with
  | some μ3 => .nx δ μ3
  | none => .stuck
end
end Kw
set_option Elab.async false
set_option linter.all false
set_option maxRecDepth 100000
namespace Kw
open PySem PySem.Spec PyProof.Rows L2
def gPos : List D → List D → List D := fun ds _ => ds
def gPerm (idx : List Nat) : List D → List D → List D := fun ds es => permL idx (ds ++ es)
/-- a way to call -/
def CallR (cl : FM → List D → Mem → Out D) : Prop := ∀ {K : PySem.W.Frag} {mg : Str → Option Value} {T : List (Addr × Str)} {w : Wd} {μ : Mem} {H : Hp} {Q : VK} {E : XK} {m : FM} {ds : List D} {vs : List V} {n : Nat},
  vs.length = n → RelM K mg T w μ H → RelDs K mg w ds vs → FTo K mg T w Q E (cl m ds μ) → spM K mg T n m vs H Q E
/-- a method -/
structure MetD (P : Program) (w : World) (K : PySem.W.Frag) (mg : Str → Option Value) (base : Heap) (T : List (Addr × Str)) (cn mn qual : Str) (st : Stmt) (k : Nat) (ps : List Str) (m : FM) : Prop where
  ex : ∃ C f fd, mg cn = some (.ref C) ∧ Cls K C ∧ Meth K C mn f ∧ FunD K mn qual (defArgs st) (defBody st) (defScope st) [] [] f fd ∧ FnG P w K mg base k f fd ps (spM K mg T ps.length m)
/-- an instance of cn that has no field mn -/
def isI (cn mn : Str) (μ : Mem) (o : D) : Bool := match insOf μ o with
  | some (c, fs) => decide (c = cn) && (fs.lookup mn).isNone
  | none => false
def eMeth (cl : FM → List D → Mem → Out D) (m : FM) (cn mn : Str) (g : List D → List D → List D) (mo : EM) (mr mk : AM) : EM := fun δ μ => (mo δ μ).bind fun o μ1 => if isI cn mn μ1 o = true then (mr δ μ1).bind fun ds μ2 => (mk δ μ2).bind fun es μ3 => cl m (g (o :: ds) es) μ3 else .stuck
def mkM (fz : Bool) (cn : Str) (k : Nat) : Out D → Out D
  | .ok .non μ' => if fz = true then (match μ'[k]? with
      | some (.ins c fs) => if c = cn ∧ locBs false k (fs.map (·.2)) = true ∧ (μ'.take k).all (obB k) = true then .ok (.ins cn (fs.map (·.1)) (fs.map (·.2))) (μ'.take k) else .stuck
      | _ => .stuck)
    else if (μ'.take (k + 1)).all (obB (k + 1)) = true then .ok (.loc k) (μ'.take (k + 1)) else .ok (.loc k) μ'
  | .exc x μ' => if (locBs false k (x.fs.map (·.2)) && (μ'.take k).all (obB k)) = true then .exc x (μ'.take k) else .exc x μ'
  | _ => .stuck
/-- C(..); fz: nothing changes it any more -/
def eMake (fz : Bool) (m : FM) (cn : Str) (g : List D → List D → List D) (mr mk : AM) : EM := fun δ μ => (mr δ μ).bind fun ds μ1 => (mk δ μ1).bind fun es μ2 => mkM fz cn μ2.length (m (g (.loc μ2.length :: ds) es) (μ2 ++ [.ins cn []]))
end Kw
set_option Elab.async false
set_option linter.all false
set_option maxRecDepth 100000
namespace PySem.W
open PySem PySem.Spec
end PySem.W
namespace PySem.W
open PySem PySem.Spec
end PySem.W
set_option Elab.async false
set_option linter.all false
set_option maxRecDepth 100000
namespace Kw
open PySem PySem.Spec PyProof.Rows L2
/-- an own class whose instances are compared by its own __eq__ -/
structure EqC (K : PySem.W.Frag) (mg : Str → Option Value) (cn : Str) (f : Addr) : Prop where
  ex : ∃ C, mg cn = some (.ref C) ∧ PySem.W.findIn K (.ref C) "__eq__" = some (some (.ref f)) ∧ PySem.W.isFn K (.ref f) = true ∧ PySem.W.findIn K (.ref C) "__ne__" = some (some (.builtin "object.__ne__")) ∧ PySem.W.mroIn K C (.type "object") = some true ∧ ∀ a ∈ tyL, PySem.W.notFirst K C (.type a) = true
section
variable {X : Cx} {S : SI} {W : WX} {j k : Nat} {cn : Str} {pos : Pos} {a b : Expr} {m : FM} {ma mb : EM} {cl : FM → List D → Mem → Out D} {f : Addr} {fd : FuncData} {ps : List Str}
structure EqD (P : Program) (w : World) (K : PySem.W.Frag) (mg : Str → Option Value) (base : Heap) (T : List (Addr × Str)) (cn : Str) (k : Nat) (m : FM) : Prop where
  ex : ∃ f fd ps, EqC K mg cn f ∧ FnG P w K mg base k f fd ps (spM K mg T 2 m) ∧ ∀ (s : Shared) (u v : Value), BindsTo s fd ⟨[u, v], []⟩ (ps.zip [u, v])
def eqcB (K : PySem.W.Frag) (cn : Str) : Bool := decide (PySem.W.findIn K (.ref (He.ga K cn)) "__ne__" = some (some (.builtin "object.__ne__"))) && (decide (PySem.W.mroIn K (He.ga K cn) (.type "object") = some true) && tyL.all fun a => PySem.W.notFirst K (He.ga K cn) (.type a))
theorem EqD.of {P : Program} {w : World} {K : PySem.W.Frag} {mg : Str → Option Value} {base : Heap} {T : List (Addr × Str)} {x y qual : Str} {st : Stmt} (M : MetD P w K mg base T cn "__eq__" qual st k [x, y] m) (g : mg cn = some (.ref (He.ga K cn))) (h : eqcB K cn = true)
    (hb : ∀ (kV doc pm : Value) (an : Option Addr) (cdv ct : Value) (us : List Value), us.length = 2 → bindArgs (PySem.W.fnOf "__eq__" qual (defArgs st) (defBody st) (defScope st) .none kV doc pm an cdv ct) ⟨us, []⟩ = pure ([x, y].zip us)) : EqD P w K mg base T cn k m := by
  obtain ⟨C, f, fd, hC, hc, hm, F, G⟩ := M.ex
  rw [g] at hC
  cases hC
  unfold eqcB at h
  rw [Bool.and_eq_true, Bool.and_eq_true, decide_eq_true_eq, decide_eq_true_eq] at h
  obtain ⟨h1, h2, h3⟩ := h
  exact ⟨f, fd, [x, y], ⟨_, g, hm.at_, hm.fn, h1, h2, fun a ha => List.all_eq_true.mp h3 a ha⟩, G, fun s u v => F.bindsA (ps := [x, y]) hb s [u, v] rfl⟩
structure IsC (K : PySem.W.Frag) (mg : Str → Option Value) (cn : Str) : Prop where
  ex : ∃ C, mg cn = some (.ref C) ∧ Cls K C ∧ PySem.W.findIn K (.ref C) "__class__" = some (some (.builtin "object.__class__")) ∧ PySem.W.specialIn K (.builtin "object.__class__") "__get__" = some (some (.builtin "getset_descriptor.__get__")) ∧ PySem.W.takesIn K (.builtin "object.__class__") = some true ∧
    PySem.W.mroIn K C (.type "object") = some true ∧ PySem.W.kitOne K (.ref C) (.ref C) = some true ∧ ∀ a ∈ tyL, PySem.W.kitOne K (.type a) (.ref C) = some false
def iscB (K : PySem.W.Frag) (cn : Str) : Bool := decide (PySem.W.findIn K (.ref (He.ga K cn)) "__class__" = some (some (.builtin "object.__class__"))) && (decide (PySem.W.specialIn K (.builtin "object.__class__") "__get__" = some (some (.builtin "getset_descriptor.__get__"))) && (decide (PySem.W.takesIn K (.builtin "object.__class__") = some true) &&
  (decide (PySem.W.mroIn K (He.ga K cn) (.type "object") = some true) && (decide (PySem.W.kitOne K (.ref (He.ga K cn)) (.ref (He.ga K cn)) = some true) && tyL.all fun a => decide (PySem.W.kitOne K (.type a) (.ref (He.ga K cn)) = some false)))))
theorem IsC.of {K : PySem.W.Frag} {mg : Str → Option Value} (g : mg cn = some (.ref (He.ga K cn))) (c : Cls K (He.ga K cn)) (h : iscB K cn = true) : IsC K mg cn := by
  unfold iscB at h
  simp only [Bool.and_eq_true, decide_eq_true_eq] at h
  obtain ⟨h1, h2, h3, h4, h5, h6⟩ := h
  exact ⟨_, g, c, h1, h2, h3, h4, h5, fun a ha => of_decide_eq_true (List.all_eq_true.mp h6 a ha)⟩
end
end Kw
set_option Elab.async false
set_option linter.all false
set_option maxRecDepth 100000
namespace Kw
open PySem PySem.Spec PyProof.Rows L2
def keyK : D → Option Key
  | .int i => some (.inl i)
  | .str x => some (.inr x)
  | _ => none
def dctOf (μ : Mem) : D → Option (List (D × D))
  | .dct kvs => some kvs
  | .brd kvs => some kvs
  | .loc l => match μ[l]? with
    | some (.dct kvs) => some kvs
    | some (.lkd kvs) => some kvs
    | _ => none
  | _ => none
structure RelKV (K : PySem.W.Frag) (mg : Str → Option Value) (w : Wd) (kvs : List (D × D)) (gs : List (Key × V)) : Prop where
  keys : kvs.map (·.1) = gs.map (fun p => keyD p.1)
  vals : RelDs K mg w (kvs.map (·.2)) (gs.map (·.2))
theorem keyK_keyD (k : Key) : keyK (keyD k) = some k := by cases k <;> rfl
def valD (kvs : List (D × D)) (k : Key) : Option D := (kvs.find? fun p => decide (keyK p.1 = some k)).map (·.2)
def putKD (kvs : List (D × D)) (kd : D) (k : Key) (v : D) : List (D × D) :=
  if (kvs.any fun p => decide (keyK p.1 = some k)) = true then kvs.map (fun p => if keyK p.1 = some k then (p.1, v) else p) else kvs ++ [(kd, v)]
def dropKD (kvs : List (D × D)) (k : Key) : List (D × D) := kvs.filter fun p => decide (keyK p.1 ≠ some k)
section
variable {K : PySem.W.Frag} {mg : Str → Option Value} {T : List (Addr × Str)} {w : Wd} {μ : Mem} {H : Hp}
theorem keyK_rel {d : D} {v : V} {k : Key} (rd : RelD K mg w d v) (h : keyK d = some k) : v = kV k := by
  cases d with
  | int i => cases h; cases rd; rfl
  | str x => cases h; cases rd; rfl
  | _ => cases h
theorem RelKV.nil : RelKV K mg w [] [] := ⟨rfl, .nil⟩
theorem RelKV.cons {p : D × D} {q : Key × V} {kvs : List (D × D)} {gs : List (Key × V)} (h1 : p.1 = keyD q.1) (h2 : RelD K mg w p.2 q.2) (h : RelKV K mg w kvs gs) : RelKV K mg w (p :: kvs) (q :: gs) := ⟨by simp [h1, h.keys], .cons h2 h.vals⟩
theorem RelKV.uncons {p : D × D} {kvs : List (D × D)} {gs : List (Key × V)} (h : RelKV K mg w (p :: kvs) gs) : ∃ q gs', gs = q :: gs' ∧ p.1 = keyD q.1 ∧ RelD K mg w p.2 q.2 ∧ RelKV K mg w kvs gs' := by
  obtain ⟨h1, h2⟩ := h
  cases gs with
  | nil => simp at h1
  | cons q gs =>
    simp only [List.map_cons, List.cons.injEq] at h1
    cases h2 with
    | cons r rs => exact ⟨q, gs, rfl, h1.1, r, ⟨h1.2, rs⟩⟩
theorem RelKV.unnil {gs : List (Key × V)} (h : RelKV K mg w [] gs) : gs = [] := by
  have := h.keys
  cases gs with
  | nil => rfl
  | cons q gs => simp at this
theorem RelKV.length {kvs : List (D × D)} {gs : List (Key × V)} (h : RelKV K mg w kvs gs) : kvs.length = gs.length := by
  have := congrArg List.length h.keys
  simpa using this
theorem RelKV.mono {w' : Wd} (le : w.Le w') {kvs : List (D × D)} {gs : List (Key × V)} (h : RelKV K mg w kvs gs) : RelKV K mg w' kvs gs := ⟨h.keys, RelDs.mono le h.vals⟩
theorem RelKV.append : ∀ {kvs qs : List (D × D)} {gs hs : List (Key × V)}, RelKV K mg w kvs gs → RelKV K mg w qs hs → RelKV K mg w (kvs ++ qs) (gs ++ hs)
  | [], _, gs, _, h, h' => by rw [h.unnil]; exact h'
  | p :: kvs, _, gs, _, h, h' => by
    obtain ⟨q, gs', rfl, h1, h2, h3⟩ := h.uncons
    exact .cons h1 h2 (h3.append h')
theorem key_iff {p : D × D} {q : Key × V} {k : Key} (h : p.1 = keyD q.1) : keyK p.1 = some k ↔ q.1 = k := by
  rw [h, keyK_keyD, Option.some.injEq]
theorem valD_rel {k : Key} : ∀ {kvs : List (D × D)} {gs : List (Key × V)}, RelKV K mg w kvs gs → (∀ d, valD kvs k = some d → ∃ v, valV gs k = some v ∧ RelD K mg w d v) ∧ (valD kvs k = none → valV gs k = none)
  | [], gs, h => by rw [h.unnil]; exact ⟨fun d e => (by cases e), fun _ => rfl⟩
  | p :: kvs, gs, h => by
    obtain ⟨q, gs', rfl, h1, h2, h3⟩ := h.uncons
    have ih := valD_rel (k := k) h3
    by_cases c : q.1 = k
    · have c' : keyK p.1 = some k := (key_iff h1).mpr c
      rw [valV_pos c]
      have e : valD (p :: kvs) k = some p.2 := by simp [valD, List.find?_cons, c']
      rw [e]
      exact ⟨fun d e => by cases e; exact ⟨_, rfl, h2⟩, fun e => by cases e⟩
    · have c' : ¬ keyK p.1 = some k := fun z => c ((key_iff h1).mp z)
      rw [valV_neg c]
      have e : valD (p :: kvs) k = valD kvs k := by simp [valD, List.find?_cons, c']
      rw [e]
      exact ih
theorem any_rel {k : Key} : ∀ {kvs : List (D × D)} {gs : List (Key × V)}, RelKV K mg w kvs gs → (kvs.any fun p => decide (keyK p.1 = some k)) = gs.any fun p => decide (p.1 = k)
  | [], gs, h => by rw [h.unnil]; rfl
  | p :: kvs, gs, h => by
    obtain ⟨q, gs', rfl, h1, h2, h3⟩ := h.uncons
    rw [List.any_cons, List.any_cons, any_rel h3, show decide (keyK p.1 = some k) = decide (q.1 = k) from decide_eq_decide.mpr (key_iff h1)]
theorem repl_rel {k : Key} {d : D} {v : V} (rd : RelD K mg w d v) : ∀ {kvs : List (D × D)} {gs : List (Key × V)}, RelKV K mg w kvs gs → RelKV K mg w (kvs.map fun p => if keyK p.1 = some k then (p.1, d) else p) (gs.map fun p => if p.1 = k then (p.1, v) else p)
  | [], gs, h => by rw [h.unnil]; exact .nil
  | p :: kvs, gs, h => by
    obtain ⟨q, gs', rfl, h1, h2, h3⟩ := h.uncons
    rw [List.map_cons, List.map_cons]
    by_cases c : q.1 = k
    · rw [if_pos c, if_pos ((key_iff h1).mpr c)]
      exact .cons h1 rd (repl_rel rd h3)
    · rw [if_neg c, if_neg fun z => c ((key_iff h1).mp z)]
      exact .cons h1 h2 (repl_rel rd h3)
theorem putKD_rel {k : Key} {kd d : D} {v : V} (hk : kd = keyD k) (rd : RelD K mg w d v) {kvs : List (D × D)} {gs : List (Key × V)} (h : RelKV K mg w kvs gs) : RelKV K mg w (putKD kvs kd k d) (putK gs k v) := by
  unfold putKD putK
  rw [any_rel h]
  split
  · exact repl_rel rd h
  · exact h.append (.cons hk rd .nil)
theorem zipK {ds : List D} : ∀ {gs : List (Key × V)}, RelDs K mg w ds (gs.map (·.2)) → RelKV K mg w ((gs.map fun p => keyD p.1).zip ds) gs := fun {gs} h => by
  have hl := h.length
  rw [List.length_map] at hl
  obtain ⟨z1, z2⟩ := zip_fst (ns := gs.map fun p => keyD p.1) (xs := ds) (by rw [List.length_map, hl])
  exact ⟨z1, by rw [z2]; exact h⟩
theorem dctOf_rel (r : RelM K mg T w μ H) {d : D} {v : V} {kvs : List (D × D)} (rd : RelD K mg w d v) (h : dctOf μ d = some kvs) : ∃ a gs, v = .ref a ∧ Rd H a (.dK gs) ∧ RelKV K mg w kvs gs := by
  cases rd with
  | dctK e ek rs =>
    cases h
    subst ek
    exact ⟨_, _, rfl, rd_mono r.φ e, zipK rs⟩
  | brd e ek rs =>
    cases h
    subst ek
    exact ⟨_, _, rfl, rd_mono r.fr e, zipK rs⟩
  | @loc l hl =>
    simp only [dctOf] at h
    split at h
    · next ys q =>
      cases h
      have q1 := (r.ob l _ q).1
      generalize hH : H (w.ρ l) = o at q1
      cases q1 with
      | dct e rs => exact ⟨_, _, rfl, .inl hH, ⟨e, rs⟩⟩
    · next ys q =>
      cases h
      have q1 := (r.ob l _ q).1
      generalize hH : H (w.ρ l) = o at q1
      cases q1 with
      | lkd e rs => exact ⟨_, _, rfl, .inr ⟨_, hH⟩, ⟨e, rs⟩⟩
    · cases h
  | _ => cases h
end
def gIxD (x y : D) (μ : Mem) : Option D := match dctOf μ x, keyK y with
  | some kvs, some k => valD kvs k
  | _, _ => gIx x y μ
def gInD (y x : D) (μ : Mem) : Option D := match dctOf μ x, keyK y with
  | some kvs, some k => some (.bl (valD kvs k).isSome)
  | _, _ => gIn y x μ
def gNinD (y x : D) (μ : Mem) : Option D := match dctOf μ x, keyK y with
  | some kvs, some k => some (.bl !(valD kvs k).isSome)
  | _, _ => gNin y x μ
def rIxDc : R2 := fun x y H Q => ∃ a v, x = .ref a ∧ DGet H a y (some v) ∧ Q v H
def rInDc : R2 := fun y x H Q => ∃ a o, x = .ref a ∧ DGet H a y o ∧ Q (.bl o.isSome) H
def rNinDc : R2 := fun y x H Q => ∃ a o, x = .ref a ∧ DGet H a y o ∧ Q (.bl (!o.isSome)) H
section
variable {X : Cx} {S : SI} {W : WX} {a b : Expr} {ma mb : EM} {pos : Pos}
theorem ix_dct (hu : X.A.units + 1 < cLine) : IxR X rIxDc := by
  intro value slice pins s σ H x y v u Q I rx ry h hs
  obtain ⟨a, z, rfl, g, q⟩ := h
  obtain rfl : v = Value.ref a := rx
  exact tail_any (dict_typeIs I g) slot_dict_getitem.lookup (d_getItem hu I g ry fun w' s' I' rw' => ⟨z, H, I', rw', q⟩) hs
theorem op_inDc (hu : X.A.units + 1 < cLine) : OpR X (compareOp .In) rInDc := by
  intro pins s σ H y x u v Q I ry rx h
  obtain ⟨a, o, rfl, g, q⟩ := h
  cases (show v = Value.ref a from rx)
  exact d_in hu I g ry fun s' I' => ⟨.bl o.isSome, H, I', rfl, q⟩
theorem op_ninDc (hu : X.A.units + 1 < cLine) : OpR X (compareOp .NotIn) rNinDc := by
  intro pins s σ H y x u v Q I ry rx h
  obtain ⟨a, o, rfl, g, q⟩ := h
  cases (show v = Value.ref a from rx)
  exact d_notIn hu I g ry fun s' I' => ⟨.bl (!o.isSome), H, I', rfl, q⟩
theorem dget_rel {K : PySem.W.Frag} {mg : Str → Option Value} {T : List (Addr × Str)} {w : Wd} {μ : Mem} {H : Hp} {dx dy : D} {x y : V} {kvs : List (D × D)} {k : Key} (r : RelM K mg T w μ H) (rx : RelD K mg w dx x) (ry : RelD K mg w dy y) (h1 : dctOf μ dx = some kvs) (h2 : keyK dy = some k) :
    ∃ a, x = .ref a ∧ (∀ d, valD kvs k = some d → ∃ v, DGet H a y (some v) ∧ RelD K mg w d v) ∧ (valD kvs k = none → DGet H a y none) := by
  obtain ⟨a, gs, rfl, hr, rk⟩ := dctOf_rel r rx h1
  obtain rfl := keyK_rel ry h2
  obtain ⟨v1, v2⟩ := valD_rel (k := k) rk
  exact ⟨a, rfl, fun d e => by
    obtain ⟨v, e1, e2⟩ := v1 d e
    exact ⟨v, .inl ⟨gs, k, hr, rfl, e1.symm⟩, e2⟩, fun e => .inl ⟨gs, k, hr, rfl, (v2 e).symm⟩⟩
theorem ixD_r {K : PySem.W.Frag} {mg : Str → Option Value} {T : List (Addr × Str)} {x y : V} {H : Hp} {Q : VK} (h : rD2 K mg T gIxD x y H Q) : rIxDc x y H Q ∨ rIx K x y H Q := by
  obtain ⟨w, μ, dx, dy, d, r, rx, ry, e, q⟩ := h
  unfold gIxD at e
  split at e
  · next kvs k h1 h2 =>
    obtain ⟨a, rfl, g1, g2⟩ := dget_rel r rx ry h1 h2
    obtain ⟨v, g, rv⟩ := g1 d e
    exact .inl ⟨a, v, rfl, g, q.same r rv⟩
  · exact .inr (ix_r ⟨w, μ, dx, dy, d, r, rx, ry, e, q⟩)
theorem pe_ixD (hu : X.A.units + 1 < cLine) (hs : PlainIx b) (ha : PE X a (TEm X S W ma)) (hb : PE X b (TEm X S W mb)) : PE X (.Subscript a b pos) (TEm X S W <| e2 gIxD ma mb) := pe_2 (fun t u ha hb => pe_ix ((ix_dct hu).or ix_seq) ha hb hs) (fun _ _ _ _ => ixD_r) ha hb
theorem inD_r {K : PySem.W.Frag} {mg : Str → Option Value} {T : List (Addr × Str)} {x y : V} {H : Hp} {Q : VK} {A : Prop} (hh : rD2 K mg T gIn x y H Q → A) (h : rD2 K mg T gInD x y H Q) : rInDc x y H Q ∨ A := by
  obtain ⟨w, μ, dy, dx, d, r, ry, rx, e, q⟩ := h
  unfold gInD at e
  split at e
  · next kvs k h1 h2 =>
    cases e
    obtain ⟨a, rfl, g1, g2⟩ := dget_rel r rx ry h1 h2
    cases hv : valD kvs k with
    | none => exact .inl ⟨a, none, rfl, g2 hv, q.same r (by rw [hv]; exact .bl _)⟩
    | some d =>
      obtain ⟨v, g, _⟩ := g1 d hv
      exact .inl ⟨a, some v, rfl, g, q.same r (by rw [hv]; exact .bl _)⟩
  · exact .inr (hh ⟨w, μ, dy, dx, d, r, ry, rx, e, q⟩)
theorem ninD_r {K : PySem.W.Frag} {mg : Str → Option Value} {T : List (Addr × Str)} {x y : V} {H : Hp} {Q : VK} {A : Prop} (hh : rD2 K mg T gNin x y H Q → A) (h : rD2 K mg T gNinD x y H Q) : rNinDc x y H Q ∨ A := by
  obtain ⟨w, μ, dy, dx, d, r, ry, rx, e, q⟩ := h
  unfold gNinD at e
  split at e
  · next kvs k h1 h2 =>
    cases e
    obtain ⟨a, rfl, g1, g2⟩ := dget_rel r rx ry h1 h2
    cases hv : valD kvs k with
    | none => exact .inl ⟨a, none, rfl, g2 hv, q.same r (by rw [hv]; exact .bl _)⟩
    | some d =>
      obtain ⟨v, g, _⟩ := g1 d hv
      exact .inl ⟨a, some v, rfl, g, q.same r (by rw [hv]; exact .bl _)⟩
  · exact .inr (hh ⟨w, μ, dy, dx, d, r, ry, rx, e, q⟩)
theorem pt_inDc (hu : X.A.units + 65 < cLine) (hm : behindInMarks .In b = false) (ha : PE X a (TEm X S W ma)) (hb : PE X b (TEm X S W mb)) : PT X (.Compare a [.In] [b] pos) (TTm X S W <| tBl (e2 gInD ma mb)) := pt_cmp2 ((op_inDc (by omega)).or (op_in_seq.or (op_inD hu))) hm (fun _ _ _ _ h => inD_r (fun h => (rD2_or h).imp inF_ok inDp_ok) h) ha hb
theorem pt_ninDc (hu : X.A.units + 65 < cLine) (hm : behindInMarks .NotIn b = false) (ha : PE X a (TEm X S W ma)) (hb : PE X b (TEm X S W mb)) : PT X (.Compare a [.NotIn] [b] pos) (TTm X S W <| tBl (e2 gNinD ma mb)) := pt_cmp2 ((op_ninDc (by omega)).or (op_notIn_seq.or (op_notInD hu))) hm (fun _ _ _ _ h => ninD_r (fun h => (rD2_or h).imp ninF_ok ninDp_ok) h) ha hb
end
end Kw
set_option Elab.async false
set_option linter.all false
set_option maxRecDepth 100000
namespace KwS
open PySem PySem.Spec PyProof.Rows L2
abbrev nset (w : World) : Obj := { cls := .type "set", dict := none, data := .set #[] 0 (.fresh 0 0 (!w.params.followText "set-order")) }
section
variable {P : Program} {w : World} {A : Around} {E : Value → Shared → Prop} {s : Shared}
set_option maxHeartbeats 3200000 in
theorem setOfList {l : Addr} {items : Array Value} (ns : List Int) {Q : Value → Shared → Prop} (hand : A.handled = none) (isl : s.heap.IsList l items) (hint : IntsAre items.toList ns) (few : ns.length + 1 < scanBound)
    (then_ : ∀ (hp : Heap) (tk c : Nat), SetR w hp s.heap.objs.size (fun j => decide (j ∈ ns)) c → c ≤ ns.length → (∀ b o, s.heap.get? b = some o → hp.get? b = some o) → Q (.ref s.heap.objs.size) { s with heap := hp, toks := tk }) :
    wpAny (model P w) A (call (.type "set") [.ref l]) Q E s := by
  have many : items.size = ns.length := by rw [← IntsAre.length hint, Array.length_toList]
  obtain ⟨m0, mt, mr⟩ := F.called_set.mro
  have f1 := F.called_set.made; have f2 := F.called_set.sub; have f3 := F.called_set.notType; have f4 := F.called_set.canCreate; have f5 := F.typeCall_set_1 (.ref l)
  refine wpAny_call (codeAny_of_tree ?_)
  show wpAny _ _ (callAny (.type "set") _) _ _ _
  refine wpAny_pure ⟨Code.quiet_builtin _ (by decide +kernel), codeAny_builtin F.entry_type_call ?_⟩
  rw [Around.under_plain (weight_type_call_type "set" [.ref l] []) rfl]
  repeat (any_goals (first | assumption | wp_step))
  refine codeAny_mono (code_set_led1 (.ref l) (E := E) (Q₁ := fun u t => u = .ref s.heap.objs.size ∧ t = { s with heap := s.heap.push (nset w) }) ⟨rfl, rfl⟩) fun res t ht => ?_
  match res, ht with
  | .error e, ht => exact ht
  | .ok .next, ht => exact ht.elim
  | .ok .brk, ht => exact ht.elim
  | .ok .cont, ht => exact ht.elim
  | .ok (.ret obj), ht =>
    obtain ⟨rfl, rfl⟩ := ht
    have at_ : (s.heap.push (nset w)).get? s.heap.objs.size = some (nset w) := Heap.get?_push_size _ rfl
    have typ : Shared.TypeIs { s with heap := s.heap.push (nset w) } (.ref s.heap.objs.size) "set" := ⟨_, at_, rfl⟩
    have g1 := F.called_set.init.lookup; have g2 := F.called_set.init.bind (.ref s.heap.objs.size)
    repeat (any_goals (first | assumption | wp_step))
    refine codeAny_mono (codeAny_call_builtin (R := wants (fun u t => u = .none ∧ ∃ hp tk c, t = { s with heap := hp, toks := tk } ∧ SetR w hp s.heap.objs.size (fun j => decide (j ∈ ns)) c ∧ c ≤ ns.length ∧ ∀ b o, s.heap.get? b = some o → hp.get? b = some o) E) F.called_set.init.plain F.entry_set_init (check_set_init_1 typ ?_)) fun res2 t2 ht2 => ?_
    · obtain ⟨⟨k1, k2, k3, k4⟩, at2, k5, n2, k6⟩ := isl
      simp only at k5 k6
      subst k5 k6
      have at3 : (s.heap.push (nset w)).get? l = some ⟨.type "list", k2, .seq items n2, k4⟩ := Heap.get?_push_of_some _ at2
      have t1 := F.sub_list_set; have t2 := F.sub_list_frozenset
      have t3 : (Value.type "list" == Value.type "dict") = false := by decide
      have isl2 : (s.heap.push (nset w)).IsList l items := ⟨_, at3, rfl, n2, rfl⟩
      unfold Builtin.«set.__init__» noKeywords Builtin.Frozenset.updateFrom
      generalize hit : pyIter = it
      wp_walk
      subst hit
      refine wpAny_pyIter_list isl2 (wpAny_bind (wpAny_runValue ?_))
      have lS : l < s.heap.objs.size := Heap.lt_size at2
      have lI : l ≠ (s.heap.push (nset w)).objs.size := by rw [Heap.size_push]; exact Nat.ne_of_lt (Nat.lt_succ_of_lt lS)
      have sI : s.heap.objs.size ∉ [(s.heap.push (nset w)).objs.size, l] := by
        rw [Heap.size_push]
        intro z
        simp only [List.mem_cons, List.not_mem_nil, or_false] at z
        rcases z with z | z
        · exact Nat.ne_of_lt (Nat.lt_succ_self _) z
        · exact Nat.ne_of_gt lS z
      have vals : ∀ (i : Nat) (v : Value), items[i]? = some v → ∃ k t, ns[i]? = some k ∧ v = .int k t := fun i v hv => by
        have hi : i < ns.length := many ▸ (Array.getElem?_eq_some_iff.mp hv).1
        obtain ⟨t, e⟩ := IntsAre.int_at hint i v (by rw [Array.getElem?_toList, hv])
        exact ⟨ns[i], t, List.getElem?_eq_getElem hi, by rw [e, List.getD_eq_getElem?_getD, List.getElem?_eq_getElem hi]; rfl⟩
      refine set_update_ints ((Walks.list (by simp [hand] : A.in1.in1.in1.handled = none) _ l lI items).toS) s.heap.objs.size sI ns many few vals (items.size - 0) 0 _ (by omega) (Nat.zero_le _) ⟨⟨_, Heap.get?_push_size _ rfl, rfl, rfl⟩, isl2.push _⟩ ?_ ?_
      · exact ⟨0, Nat.le_refl 0, setR_new_at (w := w) (Heap.get?_push_of_some _ at_)⟩
      · rintro ⟨hp, gg, dd, tk, oo⟩ c mv cle sr
        have q1 : gg = s.gens := mv.gens
        have q2 : dd = s.drawn := mv.drawn
        have q3 : oo = s.os := mv.os
        subst q1 q2 q3
        show wpAny _ _ _ _ _ _
        refine wpAny_pure ?_
        show wpAny _ _ (ret Value.none) _ _ _
        refine wpAny_pure ⟨rfl, hp, tk, c, rfl, sr, many ▸ cle, fun b o e => mv.heap b o (fun z => ?_) (Heap.get?_push_of_some _ (Heap.get?_push_of_some _ e))⟩
        have bl : b < s.heap.objs.size := Heap.lt_size e
        rw [Heap.size_push] at z
        simp only [List.mem_cons, List.not_mem_nil, or_false] at z
        rcases z with z | z
        · exact Nat.ne_of_lt bl z
        · exact Nat.ne_of_lt (Nat.lt_succ_of_lt bl) z
    · match res2, ht2 with
      | .error e, ht2 => exact ht2
      | .ok .next, ht2 => exact ht2.elim
      | .ok .brk, ht2 => exact ht2.elim
      | .ok .cont, ht2 => exact ht2.elim
      | .ok (.ret r), ht2 =>
        obtain ⟨rfl, hp, tk, c, rfl, x1, x2, x3⟩ := ht2
        repeat (any_goals (first | assumption | wp_step))
        exact then_ _ _ _ x1 x2 x3
end
end KwS
set_option Elab.async false
set_option linter.all false
set_option maxRecDepth 100000
namespace Kw
open PySem PySem.Spec PyProof.Rows L2
abbrev Pm : Int := 2305843009213693951
/-- the octets as a number, each one more, by b -/
def hv (b : Int) (zs : List Int) : Int := zs.foldl (fun v z => v * b + z + 1) 0
def dg (b : Int) (zs : List Int) : Int := hv b zs % Pm
end Kw
set_option Elab.async false
set_option linter.all false
set_option maxRecDepth 100000
namespace Kw
open PySem PySem.Spec PyProof.Rows L2
end Kw
set_option Elab.async false
set_option linter.all false
set_option maxRecDepth 100000
namespace Kw
open PySem PySem.Spec PyProof.Rows L2
section
variable {δ : Sv} {μ μ' : Mem} {cl : FM → List D → Mem → Out D} {m : FM} {cn mn c f : Str} {gD : List D → List D → List D} {mo mv : EM} {mr mk : AM} {tab : FlT} {l k : Nat} {fs : List (Str × D)} {d v : D}
@[simp] theorem eMeth_run : eMeth cl m cn mn gD mo mr mk δ μ = (mo δ μ).bind fun o μ1 => if isI cn mn μ1 o = true then (mr δ μ1).bind fun ds μ2 => (mk δ μ2).bind fun es μ3 => cl m (gD (o :: ds) es) μ3 else .stuck := rfl
@[simp] theorem eMake_run {fz : Bool} : eMake fz m cn gD mr mk δ μ = (mr δ μ).bind fun ds μ1 => (mk δ μ1).bind fun es μ2 => mkM fz cn μ2.length (m (gD (.loc μ2.length :: ds) es) (μ2 ++ [.ins cn []])) := rfl
@[simp] theorem gPos_run {a b : List D} : gPos a b = a := rfl
@[simp] theorem gPerm_run {a b : List D} {i : List Nat} : gPerm i a b = permL i (a ++ b) := rfl
@[simp] theorem sFldM_run : sFldM tab f mo mv δ μ = (mv δ μ).bindS δ fun v μ1 => (mo δ μ1).bindS δ fun o μ2 => match gFldSet tab f o v μ2 with
  | some μ3 => .nx δ μ3
  | none => .stuck := rfl
theorem callM_exc {ds : List D} {x : Xn} (h : m ds μ = .exc x μ) : callM m ds μ = .exc x μ := by
  unfold callM
  rw [h]
  simp only
  split
  · rw [List.take_length]
  · rfl
theorem cut_T {xs : List D} {b : Nat} (h : b ≤ xs.length) : Kw.cutD xs none (some (b : Int)) = xs.take b := by
  unfold Kw.cutD HT.sIx
  have e : ¬ (b : Int) < 0 := by omega
  simp only [e, if_false, List.drop_zero, Nat.sub_zero, Int.toNat_natCast]
  rw [Nat.min_eq_left h]
theorem slT {xs : List D} {b : Nat} (h : b ≤ xs.length) (μ : Mem) : gSl (.tup xs) none (some (b : Int)) μ = some (.tup (xs.take b)) := by
  show some (D.tup (Kw.cutD xs none (some (b : Int)))) = _
  rw [cut_T h]
end
end Kw
set_option Elab.async false
set_option linter.all false
set_option maxRecDepth 100000
namespace Kw
open PySem PySem.Spec PyProof.Rows L2
def blkB (n : Nat) (d : D) : Bool := isSeqD d && (decide ((itD d).length = n) && (itD d).all (belD 257))
section
variable {μ : Mem} {d : D}
def Cells (a : List Int) : Prop := ∀ x ∈ a, 0 ≤ x ∧ x < 257
theorem Oh.it {zs : List Int} (h : Oh zs d) : itD d = zs.map D.int ∧ isSeqD d = true := by cases h <;> exact ⟨rfl, rfl⟩
def firD (d : D) : D := (itD d).headD .non
def tabB (d : D) : Bool := isSeqD d && (decide (1 ≤ (itD d).length ∧ (itD d).length ≤ 8) && (isSeqD (firD d) && (decide (1 ≤ (itD (firD d)).length ∧ (itD (firD d)).length ≤ 12) && (itD d).all (blkB (itD (firD d)).length))))
/-- a table of these rows (as tuples) -/
def tabD (xs : List D) (n : Nat) : D := .ins "Table" ["rows", "data", "sums"] [.tup xs, .int (n : Int), .int (xs.length : Int)]
/-- rows of cells -/
def RowsOk (n : Nat) (rs : List (List Int)) : Prop := (1 ≤ rs.length ∧ rs.length ≤ 8) ∧ (1 ≤ n ∧ n ≤ 12) ∧ ∀ r ∈ rs, r.length = n ∧ Cells r
/-- rows handed in -/
inductive Rh (rs : List (List Int)) : D → Prop
  | t {ds : List D} (h : Paired Oh rs ds) : Rh rs (.tup ds)
  | l {ds : List D} (h : Paired Oh rs ds) : Rh rs (.lst ds)
theorem paired_it : ∀ {rs : List (List Int)} {ds : List D}, Paired Oh rs ds → ds.map (fun x => D.tup (itD x)) = rs.map oT ∧ ∀ x ∈ ds, ∃ r ∈ rs, Oh r x
  | [], [], .nil => ⟨rfl, fun x h => absurd h (List.not_mem_nil)⟩
  | r :: rs, d :: ds, .cons h t => by
    obtain ⟨i1, i2⟩ := paired_it t
    refine ⟨by rw [List.map_cons, List.map_cons, i1, h.it.1], fun x hx => ?_⟩
    rcases List.mem_cons.mp hx with rfl | hx
    · exact ⟨r, .head _, h⟩
    · obtain ⟨r', m, o⟩ := i2 x hx
      exact ⟨r', .tail _ m, o⟩
theorem Rh.it {rs : List (List Int)} (h : Rh rs d) : isSeqD d = true ∧ Paired Oh rs (itD d) := by cases h <;> exact ⟨rfl, by assumption⟩
theorem bel_cells {r : List Int} (h : Cells r) : (r.map D.int).all (belD 257) = true := List.all_eq_true.mpr fun x hx => by
  obtain ⟨z, hz, rfl⟩ := List.mem_map.mp hx
  obtain ⟨h1, h2⟩ := h z hz
  simp [belD, h1, h2]
theorem oh_blk {r : List Int} (h : Oh r d) (hc : Cells r) : blkB r.length d = true := by
  unfold blkB
  rw [h.it.1, h.it.2, bel_cells hc]
  simp
theorem Rh.tab {n : Nat} {rs : List (List Int)} (h : Rh rs d) (ok : RowsOk n rs) : tabB d = true := by
  obtain ⟨h1, h2⟩ := h.it
  obtain ⟨o1, o2, o3⟩ := ok
  have hl : (itD d).length = rs.length := by
    have := congrArg List.length (paired_it h2).1
    simpa using this
  have each : ∀ x ∈ itD d, isSeqD x = true ∧ (itD x).length = n ∧ blkB n x = true := fun x hx => by
    obtain ⟨r, m, o⟩ := (paired_it h2).2 x hx
    obtain ⟨e1, e2⟩ := o3 r m
    exact ⟨o.it.2, by rw [o.it.1, List.length_map]; exact e1, by rw [← e1]; exact oh_blk o e2⟩
  have hf : firD d ∈ itD d := by
    unfold firD
    match itD d, hl with
    | x :: xs, _ => exact .head _
    | [], hl => exact absurd hl (by simp; omega)
  obtain ⟨f1, f2, f3⟩ := each _ hf
  unfold tabB
  rw [h1, f1, f2, hl, decide_eq_true o1, decide_eq_true o2, List.all_eq_true.mpr fun x hx => (each x hx).2.2]
  rfl
abbrev tbl (rs : List (List Int)) (n : Nat) : D := tabD (rs.map oT) n
end
end Kw
set_option Elab.async false
set_option linter.all false
set_option maxRecDepth 100000
namespace Kw
open PySem PySem.Spec PyProof.Rows L2
def insI (x : Int) : List Int → List Int
  | [] => [x]
  | y :: ys => if x ≤ y then x :: y :: ys else y :: insI x ys
def srtI : List Int → List Int
  | [] => []
  | x :: xs => insI x (srtI xs)
def insU (x : Int) : List Int → List Int
  | [] => [x]
  | y :: ys => if x < y then x :: y :: ys else if x = y then y :: ys else y :: insU x ys
def srtU : List Int → List Int
  | [] => []
  | x :: xs => insU x (srtU xs)
theorem insI_perm (x : Int) : ∀ l : List Int, (insI x l).Perm (x :: l)
  | [] => .refl _
  | y :: ys => by
    unfold insI
    split
    · exact .refl _
    · exact ((insI_perm x ys).cons y).trans (List.Perm.swap x y ys)
theorem srtI_perm : ∀ l : List Int, (srtI l).Perm l
  | [] => .refl _
  | x :: xs => (insI_perm x _).trans ((srtI_perm xs).cons x)
theorem insI_le (x : Int) : ∀ {l : List Int}, l.Pairwise (· ≤ ·) → (insI x l).Pairwise (· ≤ ·)
  | [], _ => List.pairwise_singleton _ _
  | y :: ys, h => by
    unfold insI
    obtain ⟨h1, h2⟩ := List.pairwise_cons.mp h
    split
    · next q =>
      refine List.pairwise_cons.mpr ⟨fun z hz => ?_, h⟩
      rcases List.mem_cons.mp hz with e | hz
      · rw [e]; exact q
      · exact Int.le_trans q (h1 z hz)
    · next q =>
      refine List.pairwise_cons.mpr ⟨fun z hz => ?_, insI_le x h2⟩
      rcases List.mem_cons.mp ((insI_perm x ys).mem_iff.mp hz) with e | hz
      · rw [e]; omega
      · exact h1 z hz
theorem srtI_le : ∀ l : List Int, (srtI l).Pairwise (· ≤ ·)
  | [] => .nil
  | x :: xs => insI_le x (srtI_le xs)
theorem le_perm_eq : ∀ {l m : List Int}, l.Pairwise (· ≤ ·) → m.Pairwise (· ≤ ·) → l.Perm m → l = m
  | [], m, _, _, p => (List.nil_perm.mp p).symm
  | x :: l, [], _, _, p => by have := p.length_eq; simp at this
  | x :: l, y :: m, h, k, p => by
    obtain ⟨h1, h2⟩ := List.pairwise_cons.mp h
    obtain ⟨k1, k2⟩ := List.pairwise_cons.mp k
    have e : x = y := by
      rcases List.mem_cons.mp (p.mem_iff.mp List.mem_cons_self) with e | hx
      · exact e
      · rcases List.mem_cons.mp (p.mem_iff.mpr List.mem_cons_self) with e | hy
        · exact e.symm
        · have a := k1 x hx
          have b := h1 y hy
          omega
    subst e
    rw [le_perm_eq h2 k2 (List.Perm.cons_inv p)]
theorem insU_mem (x z : Int) : ∀ l : List Int, z ∈ insU x l ↔ z = x ∨ z ∈ l
  | [] => by simp [insU]
  | y :: ys => by
    unfold insU
    split
    · simp
    · split
      · next e => subst e; simp
      · rw [List.mem_cons, insU_mem x z ys, List.mem_cons]
        constructor
        · rintro (h | h | h)
          · exact .inr (.inl h)
          · exact .inl h
          · exact .inr (.inr h)
        · rintro (h | h | h)
          · exact .inr (.inl h)
          · exact .inl h
          · exact .inr (.inr h)
theorem mem_srtU (z : Int) : ∀ l : List Int, z ∈ srtU l ↔ z ∈ l
  | [] => .rfl
  | x :: xs => by
    show z ∈ insU x (srtU xs) ↔ _
    rw [insU_mem, mem_srtU z xs, List.mem_cons]
theorem insU_lt (x : Int) : ∀ {l : List Int}, l.Pairwise (· < ·) → (insU x l).Pairwise (· < ·)
  | [], _ => List.pairwise_singleton _ _
  | y :: ys, h => by
    unfold insU
    obtain ⟨h1, h2⟩ := List.pairwise_cons.mp h
    split
    · next q =>
      refine List.pairwise_cons.mpr ⟨fun z hz => ?_, h⟩
      rcases List.mem_cons.mp hz with e | hz
      · rw [e]; exact q
      · exact Int.lt_trans q (h1 z hz)
    · split
      · exact h
      · next q q2 =>
        refine List.pairwise_cons.mpr ⟨fun z hz => ?_, insU_lt x h2⟩
        rcases (insU_mem x z ys).mp hz with e | hz
        · rw [e]; omega
        · exact h1 z hz
theorem srtU_lt : ∀ l : List Int, (srtU l).Pairwise (· < ·)
  | [] => .nil
  | x :: xs => insU_lt x (srtU_lt xs)
theorem lt_mem_eq : ∀ {l m : List Int}, l.Pairwise (· < ·) → m.Pairwise (· < ·) → (∀ z, z ∈ l ↔ z ∈ m) → l = m
  | [], [], _, _, _ => rfl
  | [], y :: m, _, _, p => by have := (p y).mpr List.mem_cons_self; cases this
  | x :: l, [], _, _, p => by have := (p x).mp List.mem_cons_self; cases this
  | x :: l, y :: m, h, k, p => by
    obtain ⟨h1, h2⟩ := List.pairwise_cons.mp h
    obtain ⟨k1, k2⟩ := List.pairwise_cons.mp k
    have e : x = y := by
      rcases List.mem_cons.mp ((p x).mp List.mem_cons_self) with e | hx
      · exact e
      · rcases List.mem_cons.mp ((p y).mpr List.mem_cons_self) with e | hy
        · exact e.symm
        · have a := k1 x hx
          have b := h1 y hy
          omega
    subst e
    refine congrArg _ (lt_mem_eq h2 k2 fun z => ?_)
    have q := p z
    rw [List.mem_cons, List.mem_cons] at q
    constructor
    · intro hz
      have a := h1 z hz
      exact (q.mp (.inr hz)).resolve_left (by omega)
    · intro hz
      have a := k1 z hz
      exact (q.mpr (.inr hz)).resolve_left (by omega)
theorem lt_nodup {l : List Int} (h : l.Pairwise (· < ·)) : l.Nodup := h.imp fun a => by intro e; omega
theorem srtI_nodup {l : List Int} (h : l.Nodup) : srtI l = srtU l := by
  refine lt_mem_eq ?_ (srtU_lt l) fun z => by rw [mem_srtU, (srtI_perm l).mem_iff]
  have a := srtI_le l
  have b : (srtI l).Nodup := (srtI_perm l).nodup_iff.mpr h
  exact a.imp₂ (fun a b c d => by omega) b
section
variable {K : PySem.W.Frag} {mg : Str → Option Value} {T : List (Addr × Str)} {w : Wd} {μ : Mem} {H : Hp}
theorem RelM.dct (r : RelM K mg T w μ H) {l : Nat} {kvs : List (D × D)} (h : μ[l]? = some (.dct kvs)) : ∃ gs, H (w.ρ l) = some (.dK gs) ∧ RelKV K mg w kvs gs := by
  have := (r.ob l _ h).1
  generalize H (w.ρ l) = o at this
  cases this with
  | dct e rs => exact ⟨_, rfl, ⟨e, rs⟩⟩
end
section
variable {X : Cx} {S : SI} {W : WX} {st : Stmt} {m : SM} {a e o : Expr} {es : List Expr} {tg : Expr} {ma mo mi : EM} {mr : AM} {pos p tpos : Pos}
def eNewD : EM := fun _ μ => .ok (.loc μ.length) (μ ++ [.dct []])
theorem pe_newD : PE X (.Dict [] [] pos) (TEm X S W eNewD) := PEi pe_dnewK fun σ H Q ⟨w, δ, μ, h⟩ => put_new h.2.1 (.dct rfl .nil) fun w' v H' le rm rd => h.2.2 w' v H' le rm rd
def gSetD (o i v : D) (μ : Mem) : Option Mem := match o with
  | .loc l => match μ[l]? with
    | some (.dct kvs) => match keyK i with
      | some k => if kvs.length < sizeLine then some (μ.set l (.dct (putKD kvs i k v))) else none
      | none => none
    | _ => gSet o i v μ
  | _ => none
def gSubMD (mo mi : EM) : GM := fun v δ μ => (mo δ μ).bindS δ fun o μ1 => (mi δ μ1).bindS δ fun i μ2 => match gSetD o i v μ2 with
  | some μ3 => .nx δ μ3
  | none => .stuck
theorem keyK_keyD2 {d : D} {k : Key} (h : keyK d = some k) : d = keyD k := by
  cases d <;> simp [keyK] at h <;> subst h <;> rfl
theorem pset_or {r r' : TSet} (h : PSet X r) (h' : PSet X r') : PSet X (fun o i v H Q => r o i v H Q ∨ r' o i v H Q) := fun pins s σ H o i v ov iv u Q I ro ri rv q => q.elim (h pins s σ H o i v ov iv u Q I ro ri rv) (h' pins s σ H o i v ov iv u Q I ro ri rv)
theorem gSetD_cases {o i v : D} {μ μ' : Mem} (h : gSetD o i v μ = some μ') : ∃ l, o = .loc l ∧ ((∃ kvs k, μ[l]? = some (.dct kvs) ∧ keyK i = some k ∧ kvs.length < sizeLine ∧ μ' = μ.set l (.dct (putKD kvs i k v))) ∨
    ∃ xs z j, μ[l]? = some (.lst xs) ∧ i = .int z ∧ ixN xs.length z = some j ∧ μ' = μ.set l (.lst (xs.set j v))) := by
  cases o with
  | loc n =>
    refine ⟨n, rfl, ?_⟩
    simp only [gSetD] at h
    split at h
    · next kvs hx =>
      split at h
      · next k hk =>
        split at h
        · next hz => cases h; exact .inl ⟨kvs, k, hx, hk, hz, rfl⟩
        · cases h
      · cases h
    · unfold gSet at h
      split at h
      · rename_i q _
        cases q
        split at h
        · next xs hx =>
          split at h
          · next j hj => cases h; exact .inr ⟨xs, _, j, hx, rfl, hj, rfl⟩
          · cases h
        · cases h
      · cases h
  | _ => cases h
theorem pg_subD {i : Expr} (h : ∀ to ti, PE X o to → PE X i ti → PG X tg (L2.gSub to ti (fun o i v H Q => rSetL o i v H Q ∨ rSetD o i v H Q))) (ho : PE X o (TEm X S W mo)) (hi : PE X i (TEm X S W mi)) : PG X tg (TGm X S W <| gSubMD mo mi) :=
  PGi (h _ _ ho hi) fun v σ H Q ⟨D, w, δ, μ, d, rs, rm, rd, q, hq⟩ => ⟨w, δ, μ, (At.bindS rs rm q).mono fun x H1 ⟨w1, μ1, x', le1, rx, rs1, rm1, q1⟩ => ⟨w1, δ, μ1, (At.bindS rs1 rm1 q1).mono fun y H2 ⟨w2, μ2, y', le2, ry, rs2, rm2, q2⟩ => by
    cases e : gSetD x' y' d μ2 with
    | none => rw [e] at q2; exact q2.elim
    | some μ3 =>
      rw [e] at q2
      obtain ⟨n, rfl, hc⟩ := gSetD_cases e
      cases rx with
      | loc hln =>
        have hρ := le2.ρ n hln
        rcases hc with ⟨kvs, k, hx, hk, hz, rfl⟩ | ⟨xs, z, j, hx, rfl, hj, rfl⟩
        · obtain ⟨gs, h1, h2⟩ := rm2.dct hx
          have rv2 := putKD_rel (k := k) (keyK_keyD2 hk) ((rd.mono le1).mono le2) h2
          refine .inr ⟨w2.ρ n, upd H2 (w2.ρ n) (.dK (putK gs k v)), by rw [hρ], ?_, ?_⟩
          · rw [keyK_rel ry hk]; exact DPut.k h1 (by rw [← h2.length]; exact hz)
          · exact hq _ _ (q2 w2 σ _ (Wd.Le.refl _) (rm2.write hx nofun (.dct rv2.keys rv2.vals)) rs2)
        · obtain ⟨vs, h1, h2⟩ := rm2.lst hx
          cases ry
          refine .inl ⟨w2.ρ n, vs, z, j, by rw [hρ], rfl, h1, by rw [← h2.length]; exact hj, ?_⟩
          exact hq _ _ (q2 w2 σ _ (Wd.Le.refl _) (rm2.write hx nofun (.lst (h2.set j ((rd.mono le1).mono le2)))) rs2)⟩⟩
def gDelD (o i : D) (μ : Mem) : Option Mem := match o with
  | .loc l => match μ[l]?, keyK i with
    | some (.dct kvs), some k => if (valD kvs k).isSome = true then some (μ.set l (.dct (dropKD kvs k))) else none
    | _, _ => none
  | _ => none
def sDelD (mo mi : EM) : SM := fun δ μ => (mo δ μ).bindS δ fun o μ1 => (mi δ μ1).bindS δ fun i μ2 => match gDelD o i μ2 with
  | some μ3 => .nx δ μ3
  | none => .stuck
end
end Kw
set_option Elab.async false
set_option linter.all false
set_option maxRecDepth 100000
namespace Kw
open PySem PySem.Spec PyProof.Rows L2
/-- the items of a sequence, the keys of a dict -/
def keysOf (μ : Mem) (x : D) : Option (List D) := match seqOf μ x with
  | some xs => some xs
  | none => match dctOf μ x with
    | some kvs => some (kvs.map (·.1))
    | none => none
def gListK : List D → Mem → Option D
  | [x], μ => match keysOf μ x with
    | some xs => some (.lst xs)
    | none => none
  | _, _ => none
/-- sorted(numbers) -/
def gSrt : List D → Mem → Option D
  | [x], μ => match lstOf μ x with
    | some xs => match intsOf xs with
      | some ns => some (.lst ((srtI ns).map D.int))
      | none => none
    | none => match dctOf μ x with
      | some kvs => match intsOf (kvs.map (·.1)) with
        | some ns => if ns.length < 64 then some (.lst ((srtI ns).map D.int)) else none
        | none => none
      | none => none
  | _, _ => none
/-- sorted(set(numbers)) -/
def gSrtSet : List D → Mem → Option D
  | [x], μ => match lstOf μ x with
    | some xs => match intsOf xs with
      | some ns => if ns.length + 1 < scanBound ∧ (srtU ns).length < 64 then some (.lst ((srtU ns).map D.int)) else none
      | none => none
    | none => none
  | _, _ => none
section
variable {K : PySem.W.Frag} {mg : Str → Option Value} {T : List (Addr × Str)} {w : Wd} {μ : Mem} {H : Hp}
theorem intsOf_eq : ∀ {xs : List D} {ns : List Int}, intsOf xs = some ns → xs = ns.map D.int
  | [], ns, h => by cases h; rfl
  | d :: ds, ns, h => by
    cases d with
    | int i =>
      simp only [intsOf] at h
      split at h
      · next ms hm => cases h; rw [intsOf_eq hm]; rfl
      · cases h
    | _ => cases h
theorem ints_vals : ∀ {ns : List Int} {vs : List V}, RelDs K mg w (ns.map D.int) vs → vs = ns.map V.int
  | [], vs, h => by cases h; rfl
  | n :: ns, vs, h => by
    cases h with
    | cons r rs => cases r; rw [ints_vals rs]; rfl
theorem keyD_inj {a b : Key} (h : keyD a = keyD b) : a = b := by
  cases a <;> cases b <;> cases h <;> rfl
theorem ints_keys : ∀ {ns : List Int} {gs : List (Key × V)}, ns.map D.int = gs.map (fun p => keyD p.1) → gs.map (·.1) = ns.map Sum.inl
  | [], gs, h => by cases gs with
    | nil => rfl
    | cons g gs => cases h
  | n :: ns, gs, h => by
    cases gs with
    | nil => cases h
    | cons g gs =>
      simp only [List.map_cons, List.cons.injEq] at h ⊢
      refine ⟨?_, ints_keys h.2⟩
      have : keyD g.1 = keyD (.inl n) := h.1.symm
      exact keyD_inj this
theorem keys_rel : ∀ {kvs : List (D × D)} {gs : List (Key × V)}, RelKV K mg w kvs gs → RelDs K mg w (kvs.map (·.1)) (gs.map fun kv => kV kv.1)
  | [], gs, h => by rw [h.unnil]; exact .nil
  | p :: kvs, gs, h => by
    obtain ⟨q, gs', rfl, h1, h2, h3⟩ := h.uncons
    refine .cons ?_ (keys_rel h3)
    show RelD K mg w p.1 (kV q.1)
    rw [h1]
    cases q.1 with
    | inl i => exact .int i
    | inr x => exact .str x
theorem keysOf_rel (r : RelM K mg T w μ H) {d : D} {v : V} {xs : List D} (rd : RelD K mg w d v) (h : keysOf μ d = some xs) : ∃ a vs, v = .ref a ∧ RelDs K mg w xs vs ∧ ((SqL K H a vs ∨ SqT K H a vs) ∨ ∃ gs, Rd H a (.dK gs) ∧ vs = gs.map fun kv => kV kv.1) := by
  unfold keysOf at h
  split at h
  · next ys hy =>
    cases h
    obtain ⟨a, vs, e, h1, h2⟩ := seqOf_rel r rd hy
    exact ⟨a, vs, e, h2, .inl h1⟩
  · split at h
    · next kvs hk =>
      cases h
      obtain ⟨a, gs, e, h1, h2⟩ := dctOf_rel r rd hk
      exact ⟨a, _, e, keys_rel h2, .inr ⟨gs, h1, rfl⟩⟩
    · cases h
end
section
variable {X : Cx} {S : SI} {W : WX} {e : Expr} {es : List Expr} {mr : AM} {ma : EM} {pos p p2 : Pos}
abbrev rLs (K : PySem.W.Frag) : List V → Hp → VK → Prop := fun xs H Q => (∃ p ys, xs = [.ref p] ∧ (SqL K H p ys ∨ SqT K H p ys) ∧ ∀ l, H l = none → Q (.ref l) (upd H l (.lst ys))) ∨
  ∃ (a : Addr) (kvs : List (Key × V)), xs = [.ref a] ∧ Rd H a (.dK kvs) ∧ ∀ p, H p = none → Q (.ref p) (upd H p (.lst (kvs.map fun kv => kV kv.1)))
theorem call_listK (hc : X.calm = true) : L2.CallR X (.type "list") (rLs X.K) := call_list_of.or (call_listD hc)
theorem pe_listK (hc : X.calm = true) (hg : Gl X "list") (hm : X.mg "list" = none) (ha : PA X (e :: es) (TAm X S W mr)) (he : starEach (e :: es) X.env = (false, eval e X.env) :: starEach es X.env := by rfl) (hpl : (backTo pos (starEach es X.env)).any (·.1) = false := by rfl) :
    PE X (.Call (.Name "list" p) (e :: es) [] pos) (TEm X S W <| eAs gListK mr) := pe_As (fun t h => pe_callTy (call_listK hc) hg hm (by decide +kernel) h (by decide) (by decide) he hpl) (fun xs H Q ⟨w, μ, ds, d, r, rs, e, q⟩ => by
    unfold gListK at e
    split at e
    · obtain ⟨x, rfl, rx⟩ := rs.one1
      split at e
      · next ys hy =>
        cases e
        obtain ⟨a, vs, rfl, h2, h3⟩ := keysOf_rel r rx hy
        have pn := q.lst r h2
        rcases h3 with h3 | ⟨gs, h3, rfl⟩
        · exact .inl ⟨a, vs, rfl, h3, pn⟩
        · exact .inr ⟨a, gs, rfl, h3, pn⟩
      · cases e
    · cases e) ha
abbrev rSd (K : PySem.W.Frag) : List V → Hp → VK → Prop := fun xs H Q => rSortedI K xs H Q ∨ ∃ (a : Addr) (kvs : List (Key × V)) (ks : List Int), xs = [.ref a] ∧ Rd H a (.dK kvs) ∧ kvs.map (·.1) = ks.map Sum.inl ∧ ks.length < 64 ∧
    ∀ (ys : List Int) (p : Addr), ys.Perm ks → ys.Pairwise (· ≤ ·) → H p = none → Q (.ref p) (upd H p (.lst (ys.map V.int)))
theorem call_srt (hc : X.calm = true) : L2.CallR X (.builtin "sorted") (rSd X.K) := cr_sortedI.or (call_sortedDI hc)
theorem srt_is {ys ns : List Int} (h1 : ys.Perm ns) (h2 : ys.Pairwise (· ≤ ·)) : ys = srtI ns := le_perm_eq h2 (srtI_le ns) (h1.trans (srtI_perm ns).symm)
theorem gSrt_r {K : PySem.W.Frag} {mg : Str → Option Value} {T : List (Addr × Str)} {w : Wd} {μ : Mem} {H : Hp} {ds : List D} {xs : List V} {z : D} {Q : VK} (r : RelM K mg T w μ H) (rs : RelDs K mg w ds xs) (e : gSrt ds μ = some z) : ∃ ns : List Int, z = .lst (ns.map D.int) ∧
    ((∀ p, H p = none → Q (.ref p) (upd H p (.lst (ns.map V.int)))) → rSd K xs H Q) := by
  unfold gSrt at e
  split at e
  · obtain ⟨x, rfl, rx⟩ := rs.one1
    split at e
    · next ys hy =>
      split at e
      · next ns hn =>
        cases e
        refine ⟨srtI ns, rfl, fun q => .inl ?_⟩
        obtain ⟨a, vs, rfl, h2, h3⟩ := lstOf_rel r rx hy
        rw [intsOf_eq hn] at h3
        rw [ints_vals h3] at h2
        exact ⟨a, ns, rfl, h2, fun ns' p h1 h4 hp => by rw [srt_is h1 h4]; exact q p hp⟩
      · cases e
    · split at e
      · next kvs hk =>
        split at e
        · next ns hn =>
          split at e
          · next hl =>
            cases e
            refine ⟨srtI ns, rfl, fun q => .inr ?_⟩
            obtain ⟨a, gs, rfl, h2, h3⟩ := dctOf_rel r rx hk
            have e1 := intsOf_eq hn
            rw [h3.keys] at e1
            exact ⟨a, gs, ns, rfl, h2, ints_keys e1.symm, hl, fun ns' p h1 h4 hp => by rw [srt_is h1 h4]; exact q p hp⟩
          · cases e
        · cases e
      · cases e
  · cases e
theorem pe_srt (hc : X.calm = true) (hg : Gl X "sorted") (hm : X.mg "sorted" = none) (ha : PA X (e :: es) (TAm X S W mr)) (he : starEach (e :: es) X.env = (false, eval e X.env) :: starEach es X.env := by rfl) (hpl : (backTo pos (starEach es X.env)).any (·.1) = false := by rfl) :
    PE X (.Call (.Name "sorted" p) (e :: es) [] pos) (TEm X S W <| eAs gSrt mr) := pe_As (fun t h => pe_callB (call_srt hc) hg hm (by decide +kernel) h (by decide) (by decide) he hpl) (fun xs H Q ⟨w, μ, ds, d, r, rs, e, q⟩ => by
    obtain ⟨ns, rfl, h⟩ := gSrt_r (Q := Q) r rs e
    exact h (q.lst r (ints_rel ns))) ha
/-- set(a list of numbers) -/
def rSetL1 (K : PySem.W.Frag) (w : World) : List V → Hp → VK → Prop := fun xs H Q => ∃ (a : Addr) (ns : List Int), xs = [.ref a] ∧ SqL K H a (ns.map V.int) ∧ ns.length + 1 < scanBound ∧ ∀ p, H p = none → Q (.ref p) (upd H p (SetO w p (fun j => decide (j ∈ ns)) (srtU ns).length))
theorem setR_many {w : World} {h : Heap} {a : Addr} {ns : List Int} {c : Nat} (R : SetR w h a (fun j => decide (j ∈ ns)) c) : c = (srtU ns).length := by
  obtain ⟨o, es, ep, t, ho, hx, hd, g, nd, hm, hb, hf, hn, _⟩ := R
  have pm : (es.toList.map keyOf).Perm (srtU ns) := (List.perm_ext_iff_of_nodup nd (lt_nodup (srtU_lt ns))).mpr fun k => by
    rw [mem_srtU, ← hm k]; simp
  have := pm.length_eq
  rw [List.length_map, Array.length_toList] at this
  omega
theorem cr_setL1 (hc : X.calm = true) : L2.CallR X (.type "set") (rSetL1 X.K X.w) := by
  intro pins s σ H xs us Q I r h
  obtain ⟨a, ns, rfl, hs, hl, q⟩ := h
  obtain ⟨its, rv, pl, hz⟩ := I.list hs
  rw [Vals.ref1 r]
  refine KwS.setOfList ns (I.ok.hd hc) pl.isList (by simpa using rv.ints) hl fun hp tk c R hcn keep => ?_
  have ec := setR_many R
  subst ec
  exact ⟨.ref _, upd H s.heap.objs.size (SetO X.w s.heap.objs.size (fun j => decide (j ∈ ns)) (srtU ns).length), I.laid (t' := tk) keep (Nat.le_refl _) (setO_new R), rfl, q _ (I.hok.fresh (Nat.le_refl _))⟩
theorem pe_srtSet {pos2 : Pos} (hc : X.calm = true) (hg : Gl X "sorted") (hm : X.mg "sorted" = none) (hg2 : Gl X "set") (hm2 : X.mg "set" = none) (ha : PA X [e] (TAm X S W mr)) (he : starEach [e] X.env = (false, eval e X.env) :: starEach [] X.env := by rfl)
    (he2 : starEach [.Call (.Name "set" p2) [e] [] pos] X.env = (false, eval (.Call (.Name "set" p2) [e] [] pos) X.env) :: starEach [] X.env := by rfl) :
    PE X (.Call (.Name "sorted" p) [.Call (.Name "set" p2) [e] [] pos] [] pos2) (TEm X S W <| eAs gSrtSet mr) :=
  PEi (pe_callB (cr_sortedSet hc) hg hm (by decide +kernel) (pa_cons (pe_callTy (cr_setL1 hc) hg2 hm2 (by decide +kernel) ha (by decide) (by decide) he) pa_nil he2) (by decide) (by decide) he2) fun σ H Q ⟨w, δ, μ, h⟩ => ⟨w, δ, μ, (At.bind h).mono fun x H1 ⟨w1, μ1, d, le, rs, h1⟩ => by
    obtain ⟨z, e, q⟩ := h1.opt
    unfold gSrtSet at e
    split at e
    · obtain ⟨v, rfl, rx⟩ := rs.one1
      split at e
      · next ys hy =>
        split at e
        · next ns hn =>
          split at e
          · next hl =>
            cases e
            obtain ⟨a, vs, rfl, h2, h3⟩ := lstOf_rel h1.2.1 rx hy
            rw [intsOf_eq hn] at h3
            rw [ints_vals h3] at h2
            refine ⟨a, ns, rfl, h2, hl.1, fun b hp => ?_⟩
            have rm2 := h1.2.1.ext (o := SetO X.w b (fun j => decide (j ∈ ns)) (srtU ns).length) hp
            refine ⟨b, _, _, rfl, upd_same, hl.2, fun ns' p' a1 a2 a3 hp' => ?_⟩
            have e3 : ns' = srtU ns := lt_mem_eq a1 (srtU_lt ns) fun k => by rw [a2 k, mem_srtU]; simp
            subst e3
            exact q.lst rm2 (ints_rel _) p' hp'
          · cases e
        · cases e
      · cases e
    · cases e⟩
end
end Kw
set_option Elab.async false
set_option linter.all false
set_option maxRecDepth 100000
namespace Kw
open PySem PySem.Spec PyProof.Rows L2
abbrev AccM (A : Type) := Sv → Mem → A → Out A
def accL {A : Type} (g : GM) (mt : TM) (ms : AccM A) (δ : Sv) : List D → A → Mem → Out A
  | [], a, μ => .ok a μ
  | d :: ds, a, μ => match g d δ μ with
    | .nx δ1 μ1 => match mt δ1 μ1 with
      | .ok true μ2 => match ms δ1 μ2 a with
        | .ok a1 μ3 => accL g mt ms δ ds a1 μ3
        | _ => .stuck
      | .ok false μ2 => accL g mt ms δ ds a μ2
      | _ => .stuck
    | _ => .stuck
/-- a second clause -/
def acc2 {A : Type} (mi : IM) (g : GM) (mt : TM) (vs : List Nat) (ms : AccM A) : AccM A := fun δ μ a => match mi δ μ with
  | .ok items μ1 => accL g mt ms (wipeD δ vs) items a μ1
  | _ => .stuck
def accD (mk mv : EM) : AccM (List (D × D)) := fun δ μ a => match mk δ μ with
  | .ok y μ1 => match keyK y, mv δ μ1 with
    | some k, .ok z μ2 => if a.length < sizeLine then .ok (putKD a y k z) μ2 else .stuck
    | _, _ => .stuck
  | _ => .stuck
def eAcc {A : Type} (mi : IM) (g : GM) (mt : TM) (ms : AccM A) (vs : List Nat) (a0 : A) (fo : A → Mem → Out D) : EM := fun δ μ => (mi δ μ).bind fun items μ1 => match accL g mt ms (wipeD δ vs) items a0 μ1 with
  | .ok ys μ2 => fo ys μ2
  | _ => .stuck
abbrev eDc (mi : IM) (g : GM) (mt : TM) (mk mv : EM) (vs : List Nat) : EM := eAcc mi g mt (accD mk mv) vs [] fun ys μ2 => .ok (.loc μ2.length) (μ2 ++ [.dct ys])
abbrev eDc2 (mi : IM) (g : GM) (mt : TM) (mi1 : IM) (g1 : GM) (mt1 : TM) (mk mv : EM) (vs vs1 : List Nat) : EM := eAcc mi g mt (acc2 mi1 g1 mt1 vs1 (accD mk mv)) vs [] fun ys μ2 => .ok (.loc μ2.length) (μ2 ++ [.dct ys])
section
variable {K : PySem.W.Frag} {mg : Str → Option Value} {S : SI} {W : WX} {A : Type}
abbrev TLf := L2.St → Hp → (Hp → Prop) → Prop
/-- the turns of a loop -/
def Turns (J : It) (gV : TG) (tt : TT) (LF : TLf) (vs : List Nat) (σ : L2.St) (H1 : Hp) (E : Hp → Prop) : Prop := ∃ W : Nat → Nat → Hp → Prop, (∃ m, W 0 m H1) ∧ ∀ i m H, W i m H →
  (J.stop i H ∧ E H) ∨ (J.go i H ∧ ∃ Nx : Hp → Prop, (∀ H', Nx H' → ∃ m', m' < m ∧ W (i + 1) m' H') ∧ ∀ x H', J.yld i H x H' → gV x (wipe σ vs) H' fun σ2 H2 => wipe σ2 vs = wipe σ vs ∧ tt σ2 H2 fun b H3 =>
    if b = true then LF σ2 H3 Nx else Nx H3)
/-- how what is being made at D stands for a -/
structure AccR (K : PySem.W.Frag) (mg : Str → Option Value) (RA : Wd → A → HO → Prop) : Prop where
  mono : ∀ {w w' a o}, w.Lw w' → RA w a o → RA w' a o
  chg : ∀ {w a o}, RA w a o → chg o = true
def LeafOk (K : PySem.W.Frag) (mg : Str → Option Value) (S : SI) (RA : Wd → A → HO → Prop) (D : Addr) (LF : TLf) (ms : AccM A) : Prop := ∀ (w : Wd) (δ : Sv) (σ : L2.St) (μ : Mem) (H : Hp) (a : A) (o : HO) (a' : A) (μ' : Mem) (N : Hp → Prop),
  RelSv K mg S w δ σ → RelM K mg S.T w μ H → w.gr D = some o → RA w a o → ms δ μ a = .ok a' μ' →
  (∀ w' o' H', w.Lw w' → w'.gr = upd w.gr D o' → RA w' a' o' → RelM K mg S.T w' μ' H' → N H') → LF σ H N
theorem upd_self {H : Hp} {D : Addr} {o : HO} (h : H D = some o) : H = upd H D o := by
  funext a
  by_cases e : a = D
  · subst e; rw [upd_same]; exact h
  · rw [upd_ne e]
theorem upd_upd {H : Hp} {D : Addr} {o o' : HO} : upd (upd H D o) D o' = upd H D o' := by
  funext a
  by_cases e : a = D
  · subst e; rw [upd_same, upd_same]
  · rw [upd_ne e, upd_ne e, upd_ne e]
theorem accW {RA : Wd → A → HO → Prop} (R : AccR K mg RA) {D : Addr} {items : List Kw.D} {J : It} {w1 : Wd} {μ1 μ' : Mem} {H1 : Hp} {a a' : A} {o : HO} {σ : L2.St} {δ : Sv} {g : GM} {gV : TG} {mt : TM} {ms : AccM A} {LF : TLf} {vs : List Nat} {E : Hp → Prop}
    (hn : NmTg K mg S vs gV g) (hL : LeafOk K mg S RA D LF ms) (wk : Walks K mg S.T w1 items J) (rs : RelSv K mg S w1 δ σ) (rm : RelM K mg S.T w1 μ1 H1) (hg : w1.gr D = some o) (ra : RA w1 a o) (e : accL g mt ms (wipeD δ vs) items a μ1 = .ok a' μ')
    (fin : ∀ w' o' H', w1.Lw w' → w'.gr = upd w1.gr D o' → RA w' a' o' → RelM K mg S.T w' μ' H' → E H') : Turns J gV (tT K mg S W0 mt) LF vs σ H1 E := by
  refine ⟨fun i m H => m + i = items.length ∧ ∃ (w : Wd) (μ : Mem) (b : A) (u : HO), w1.Lw w ∧ w.gr = upd w1.gr D u ∧ RA w b u ∧ RelM K mg S.T w μ H ∧ accL g mt ms (wipeD δ vs) (items.drop i) b μ = .ok a' μ',
    ⟨items.length, rfl, w1, μ1, a, o, (Wd.Le.refl w1).lw, upd_self hg, ra, rm, by simpa using e⟩, ?_⟩
  rintro i m H ⟨hm, w2, μ2, b, u, lw, hgr, rb, rm2, hz⟩
  obtain ⟨k1, k2⟩ := wk w2 μ2 H i lw rm2
  have hgD : w2.gr D = some u := by rw [hgr, upd_same]
  by_cases hi : i < items.length
  · right
    obtain ⟨go, yl⟩ := k1 _ (List.getElem?_eq_getElem hi)
    rw [List.drop_eq_getElem_cons hi] at hz
    refine ⟨go, fun H' => ∃ (w : Wd) (μ : Mem) (b : A) (u : HO), w1.Lw w ∧ w.gr = upd w1.gr D u ∧ RA w b u ∧ RelM K mg S.T w μ H' ∧ accL g mt ms (wipeD δ vs) (items.drop (i + 1)) b μ = .ok a' μ', fun H' hN => ⟨items.length - (i + 1), by omega, by omega, hN⟩, fun x H' hy => ?_⟩
    obtain ⟨w3, le3, rm3, rd⟩ := yl x H' hy
    generalize items[i] = d at hz rd
    unfold accL at hz
    have lw3 := lw.trans le3.lw
    have rs3 : RelSv K mg S w3 (wipeD δ vs) (L2.wipe σ vs) := (rs.wipe vs).monoW lw3
    cases eg : g d (wipeD δ vs) μ2 with
    | nx δ4 μ4 =>
      rw [eg] at hz
      simp only at hz
      refine hn w3 _ μ2 d x _ H' _ δ4 μ4 rs3 rm3 rd eg fun σ' rs4 hw hμ => ?_
      subst hμ
      refine ⟨hw.trans (wipe_wipe σ vs), w3, δ4, μ4, rs4, rm3, ?_⟩
      cases et : mt δ4 μ4 with
      | ok b5 μ5 =>
        rw [et] at hz
        intro w5 b' H5 le5 rm5 hb
        cases hb
        have hgr5 : w5.gr = upd w1.gr D u := by rw [le5.gr, le3.gr]; exact hgr
        have rb5 : RA w5 b u := R.mono (le3.trans le5).lw rb
        cases b5 with
        | true =>
          simp only at hz
          rw [if_pos rfl]
          cases el : ms δ4 μ5 b with
          | ok a6 μ6 =>
            rw [el] at hz
            simp only at hz
            refine hL w5 δ4 σ' μ5 H5 b u a6 μ6 _ (rs4.mono le5) rm5 (by rw [hgr5, upd_same]) rb5 el fun w' o' H' l1 l2 l3 l4 => ⟨w', μ6, a6, o', (lw3.trans le5.lw).trans l1, ?_, l3, l4, hz⟩
            rw [l2, hgr5, upd_upd]
          | exc x μ' => rw [el] at hz; cases hz
          | stuck => rw [el] at hz; cases hz
        | false =>
          simp only at hz
          rw [if_neg (by decide)]
          exact ⟨w5, μ5, b, u, lw3.trans le5.lw, hgr5, rb5, rm5, hz⟩
      | exc x μ' => rw [et] at hz; cases hz
      | stuck => rw [et] at hz; cases hz
    | _ => rw [eg] at hz; cases hz
  · left
    refine ⟨k2 (by omega), ?_⟩
    rw [List.drop_eq_nil_of_le (by omega)] at hz
    cases hz
    exact fin w2 u H lw hgr rb rm2
def lfD (tk tv : TE) (D : Addr) : TLf := fun σ H N => tk σ H fun y H4 => tv σ H4 fun z H5 => ∃ kvs k, y = kV k ∧ H5 D = some (.dK kvs) ∧ kvs.length < sizeLine ∧ N (upd H5 D (.dK (putK kvs k z)))
/-- the leaf that is a second clause -/
def lf2 (wi : TI) (gV : TG) (tt : TT) (LF : TLf) (vs : List Nat) : TLf := fun σ H N => wi σ H fun J H4 => Turns J gV tt LF vs σ H4 N
def RAd (K : PySem.W.Frag) (mg : Str → Option Value) : Wd → List (D × D) → HO → Prop := fun w a o => ∃ gs, o = .dK gs ∧ RelKV K mg w a gs
theorem accR_d : AccR K mg (RAd K mg) := ⟨fun le ⟨us, e, r⟩ => ⟨us, e, r.keys, RelDs.monoW le r.vals⟩, fun ⟨us, e, _⟩ => by rw [e]; rfl⟩
theorem leaf_d {D : Addr} {mk mv : EM} : LeafOk K mg S (RAd K mg) D (lfD (tE K mg S W0 mk) (tE K mg S W0 mv) D) (accD mk mv) := fun w δ σ μ H a o a' μ' N rs rm hg ra e q => by
  obtain ⟨gs, rfl, ra⟩ := ra
  unfold accD at e
  split at e
  · next y μ1 hy =>
    split at e
    · next k z μ2 hk hz =>
      split at e
      · next hl =>
        cases e
        refine ⟨w, δ, μ, rs, rm, ?_⟩
        rw [hy]
        intro w6 yv H6 le6 rm6 ry
        refine ⟨w6, δ, μ1, rs.mono le6, rm6, ?_⟩
        rw [hz]
        intro w7 zv H7 le7 rm7 rz
        have hg7 : w7.gr D = some (.dK gs) := by rw [le7.gr, le6.gr]; exact hg
        have racc : RelKV K mg w7 a gs := (ra.mono le6).mono le7
        have rv2 := putKD_rel (k := k) (keyK_keyD2 hk) rz racc
        refine ⟨gs, k, keyK_rel ry hk, rm7.gr D _ hg7, by rw [← ra.length]; exact hl, q (w7.grow D (.dK (putK gs k zv))) _ _ ((le6.trans le7).lw.trans (w7.grow_lw D _)) ?_ ⟨_, rfl, rv2.keys, RelDs.monoW (w7.grow_lw D _) rv2.vals⟩ (rm7.regrow hg7 rfl _)⟩
        show upd w7.gr D _ = _
        rw [le7.gr, le6.gr]
      · cases e
    · cases e
  · cases e
theorem leaf_2 {RA : Wd → A → HO → Prop} (R : AccR K mg RA) {D : Addr} {mi : IM} {g : GM} {gV : TG} {mt : TM} {ms : AccM A} {LF : TLf} {vs : List Nat} (hn : NmTg K mg S vs gV g) (hL : LeafOk K mg S RA D LF ms) :
    LeafOk K mg S RA D (lf2 (tM K mg S W0 (Walks K mg S.T) mi) gV (tT K mg S W0 mt) LF vs) (acc2 mi g mt vs ms) := fun w δ σ μ H a o a' μ' N rs rm hg ra e q => by
  unfold acc2 at e
  split at e
  · next items μ1 hi =>
    refine ⟨w, δ, μ, rs, rm, ?_⟩
    rw [hi]
    intro w6 J H6 le6 rm6 wk
    exact accW R hn hL wk (rs.mono le6) rm6 (by rw [le6.gr]; exact hg) (R.mono le6.lw ra) e fun w' o' H' l1 l2 l3 l4 => q w' o' H' (le6.lw.trans l1) (by rw [l2, le6.gr]) l3 l4
  · cases e
end
section
variable {X : Cx} {S : SI} {W : WX} {A : Type}
/-- a comprehension from its first clause's walk -/
theorem accTop {RA : Wd → A → HO → Prop} (R : AccR X.K X.mg RA) {mi : IM} {g : GM} {gV : TG} {mt : TM} {ms : AccM A} {LF : Addr → TLf} {vs : List Nat} {o0 : HO} {a0 : A} {fo : A → Mem → Out Kw.D} {σ : L2.St} {H : Hp} {Q : VK}
    (hn : NmTg X.K X.mg S vs gV g) (hL : ∀ D, LeafOk X.K X.mg S RA D (LF D) ms) (h0 : ∀ w, RA w a0 o0) (ht : ∀ ps, o0 ≠ .tbl ps) (hx : ∀ f, o0 ≠ .ext f)
    (fin : ∀ (w1 w2 : Wd) (D : Addr) (o : HO) (a : A) (μ : Mem) (H : Hp) (R' : Kw.D → Mem → Prop) (E : Xn → Mem → Prop), w1.φ D = none → w1.fr D = none → w1.gr D = none → w1.Lw w2 → w2.gr = upd w1.gr D o → RA w2 a o → RelM X.K X.mg S.T w2 μ H → (fo a μ).to R' E → ∃ d μ' w3, R' d μ' ∧ w1.Le w3 ∧ RelM X.K X.mg S.T w3 μ' H ∧ RelD X.K X.mg w3 d (.ref D))
    (h : tM X.K X.mg S W (RelD X.K X.mg) (eAcc mi g mt ms vs a0 fo) σ H Q) :
    TIm X S W mi σ H fun J H1 => ∀ D, H1 D = none → Turns J gV (tT X.K X.mg S W0 mt) (LF D) vs σ (upd H1 D o0) fun H => Q (.ref D) H := by
  obtain ⟨w, δ, μ, h⟩ := h
  refine ⟨w, δ, μ, (At.bind h).mono fun J H1 ⟨w1, μ1, items, le1, wk, h1⟩ => fun D hD => ?_⟩
  have rs1 := h1.1
  have rm1 := h1.2.1
  have h3 := h1.2.2
  split at h3
  · next ys μ2 e =>
    obtain ⟨f1, f2, fg, f3⟩ := rm1.free hD
    have wk2 : Walks X.K X.mg S.T (w1.grow D o0) items J := fun w μ H i le rm => wk w μ H i ((w1.grow_lw D o0).trans le) rm
    refine accW R hn (hL D) wk2 (rs1.monoW (w1.grow_lw D o0)) (rm1.grow hD o0 ht hx) upd_same (h0 _) e fun w' o' H' l1 l2 l3 l4 => ?_
    have l2' : w'.gr = upd w1.gr D o' := by rw [l2]; exact upd_upd
    obtain ⟨d, μ', w3, q, le3, rm3, rd⟩ := fin w1 w' D o' ys μ2 H' _ _ f1 f2 fg ((w1.grow_lw D o0).trans l1) l2' l3 l4 h3
    exact q w3 _ H' le3 rm3 rd
  · exact h3.elim
theorem fin_dct (w1 w2 : Wd) (D : Addr) (o : HO) (a : List (Kw.D × Kw.D)) (μ : Mem) (H : Hp) (R' : Kw.D → Mem → Prop) (E : Xn → Mem → Prop) (f1 : w1.φ D = none) (f2 : w1.fr D = none) (fg : w1.gr D = none) (lw : w1.Lw w2) (hgr : w2.gr = upd w1.gr D o) (ra : RAd X.K X.mg w2 a o) (rm : RelM X.K X.mg S.T w2 μ H)
    (h : (Out.ok (Kw.D.loc μ.length) (μ ++ [.dct a])).to R' E) : ∃ d μ' w3, R' d μ' ∧ w1.Le w3 ∧ RelM X.K X.mg S.T w3 μ' H ∧ RelD X.K X.mg w3 d (.ref D) := by
  obtain ⟨gs, rfl, rk⟩ := ra
  have hgD : w2.gr D = some (.dK gs) := by rw [hgr, upd_same]
  obtain ⟨lb, rb⟩ := rm.bornO (g := w1.gr) hgD (.dct rk.keys rk.vals) nofun nofun (fun a ha => by rw [hgr, upd_ne ha]) fg
  refine ⟨_, _, w2.born D w1.gr, h, ⟨Nat.le_trans lw.n (Nat.le_succ _), fun l hl => (lw.trans lb).ρ l hl, lw.φ, lw.fr, rfl, lw.lk⟩, rb, ?_⟩
  have := RelD.loc (K := X.K) (mg := X.mg) (w := w2.born D w1.gr) (l := w2.n) (Nat.lt_succ_self _)
  rw [show (w2.born D w1.gr).ρ w2.n = D from if_pos rfl] at this
  rw [← rm.n]
  exact this
variable {elt tg iter tg1 iter1 kx vx : Expr} {ifs ifs1 : List Expr} {scope : Scope} {own : List (Str × Nat)} {vs1 : List Nat} {pos : Pos} {mi mi1 : IM} {g g1 : GM} {gV gV1 : TG} {mt mt1 : TM} {me mk mv : EM}
theorem pe_dcK (hc : X.calm = true) (hN : X.N.Nodup) (hi : PI X tg iter (TIm X S W mi)) (ok : BlkOk X.N X.env.scope scope own) (hn : NmTg X.K X.mg S (own.map (·.2)) gV g)
    (hg : ∀ (s : Shared) (H : Hp) (C : Addr) (cl : List (Str × Addr)) (fp : List Addr), PG (X.blk s H scope (compEnvC scope cl C X.env) fp) tg gV) (ht : ∀ (s : Shared) (H : Hp) (C : Addr) (cl : List (Str × Addr)) (fp : List Addr), PTs (X.blk s H scope (compEnvC scope cl C X.env) fp) ifs (TTm X S W0 mt))
    (hk : ∀ (s : Shared) (H : Hp) (C : Addr) (cl : List (Str × Addr)) (fp : List Addr), PE (X.blk s H scope (compEnvC scope cl C X.env) fp) kx (TEm X S W0 mk)) (he : ∀ (s : Shared) (H : Hp) (C : Addr) (cl : List (Str × Addr)) (fp : List Addr), PE (X.blk s H scope (compEnvC scope cl C X.env) fp) vx (TEm X S W0 mv))
    (hs : ∀ x, foldedSetIterable iter X.env x = pure x := by intro _; rfl) : PE X (.DictComp kx vx [⟨tg, iter, ifs, 0⟩] scope pos) (TEm X S W <| eDc mi g mt mk mv (own.map (·.2))) :=
  PEi (pe_dc hc hN hi ok hg ht hk he hs) fun σ H Q h => accTop (W := W) (RA := RAd X.K X.mg) (LF := lfD _ _) accR_d hn (fun D => leaf_d) (fun w => ⟨[], rfl, .nil⟩) nofun nofun fin_dct h
end
end Kw
set_option Elab.async false
set_option linter.all false
set_option maxRecDepth 100000
namespace KwD2
open PySem PySem.Spec PyProof.Rows L2 Kw
theorem turn2D_out (kx vx t0 i0 t1 i1 : Expr) (tests0 tests1 : List Expr) (scope : Scope) (pos : Pos) (it : Value) (D : Addr) (env : Env) :
    compTurn (.DictComp kx vx [⟨t0, i0, tests0, 0⟩, ⟨t1, i1, tests1, 0⟩] scope pos) 0 it (.ref D) env = (do
      standAt i0.pos
      match ← pyNext it with
      | none => pure (.done .next)
      | some v =>
        letOwnedTupleGo t0 it v
        assign t0 env v
        let mut ok := true
        for c in tests0 do
          if ok then ok ← isTrue c env (eval c env)
        if ok then
          let x ← eval i1 env
          standAt i1.pos
          let x ← foldedSetIterable i1 env x
          let _ ← runOwn (.compStart (.DictComp kx vx [⟨t0, i0, tests0, 0⟩, ⟨t1, i1, tests1, 0⟩] scope pos) 1 (← holding [x] (pyIter x)) (.ref D) env) env
        again (.compLoop (.DictComp kx vx [⟨t0, i0, tests0, 0⟩, ⟨t1, i1, tests1, 0⟩] scope pos) 0 it (.ref D) env)) := by rfl
theorem turn2D_in (kx vx t0 i0 t1 i1 : Expr) (tests0 tests1 : List Expr) (scope : Scope) (pos : Pos) (it : Value) (D : Addr) (env : Env) :
    compTurn (.DictComp kx vx [⟨t0, i0, tests0, 0⟩, ⟨t1, i1, tests1, 0⟩] scope pos) 1 it (.ref D) env = (do
      standAt i1.pos
      match ← pyNext it with
      | none => pure (.done .next)
      | some v =>
        letOwnedTupleGo t1 it v
        assign t1 env v
        let mut ok := true
        for c in tests1 do
          if ok then ok ← isTrue c env (eval c env)
        if ok then
          (do
            let kv ← eval kx env
            let vv ← holding [kv] (eval vx env)
            standAt { kx.pos with endLine := vx.pos.endLine, endCol := vx.pos.endCol }
            holding [kv, vv] (dictSet D kv vv))
        again (.compLoop (.DictComp kx vx [⟨t0, i0, tests0, 0⟩, ⟨t1, i1, tests1, 0⟩] scope pos) 1 it (.ref D) env)) := by rfl
section
variable {prog : Program} {w : World} {A : Around} {s : Shared} {R : Result → Shared → Prop} {kx vx t0 i0 t1 i1 : Expr} {tests0 tests1 : List Expr} {scope : Scope} {pos : Pos} {it : Value} {D : Addr} {env : Env}
/-- a dict: the loop of the first clause -/
theorem loop2D_out (hs : ∀ x, foldedSetIterable i1 env x = pure x) (I : Nat → Shared → Prop)
    (turn : ∀ n s, I n s → wpAny (model prog w) A (pyNext it) (fun r r₁ => match r with
      | none => R (.ok .next) r₁
      | some v => wpAny (model prog w) A (letOwnedTupleGo t0 it v) (fun _ r₁' => wpAny (model prog w) A (assign t0 env v) (fun _ r₂ =>
          wpAny (model prog w) A (forIn tests0 true fun c r => if r = true then do let ok ← isTrue c env (eval c env); pure (ForInStep.yield ok) else pure (ForInStep.yield r)) (fun ok r₃ =>
            if ok = true then wpAny (model prog w) A (eval i1 env) (fun x r₄ => wpAny (model prog w) A (pyIter x) (fun it1 r₅ =>
              codeAny (model prog w) A (.compStart (.DictComp kx vx [⟨t0, i0, tests0, 0⟩, ⟨t1, i1, tests1, 0⟩] scope pos) 1 it1 (.ref D) env) (fun r s' => match r with
                | .ok _ => ∃ m, m < n ∧ I m s'
                | .error _ => False) r₅) (notedBy (model prog w) A env fun e s' => R (.error e) s') r₄) (notedBy (model prog w) A env fun e s' => R (.error e) s') r₃
            else ∃ m, m < n ∧ I m r₃) (notedBy (model prog w) A env fun e s' => R (.error e) s') r₂) (notedBy (model prog w) A env fun e s' => R (.error e) s') r₁') (notedBy (model prog w) A env fun e s' => R (.error e) s') r₁) (notedBy (model prog w) A env fun e s' => R (.error e) s') s)
    (n : Nat) (h : I n s) :
    codeAny (model prog w) A (.compLoop (.DictComp kx vx [⟨t0, i0, tests0, 0⟩, ⟨t1, i1, tests1, 0⟩] scope pos) 0 it (.ref D) env) R s := by
  refine codeAny_loop rfl I (fun n s hI => ?_) n h
  show wpAny _ A ((compTurn (.DictComp kx vx [⟨t0, i0, tests0, 0⟩, ⟨t1, i1, tests1, 0⟩] scope pos) 0 it (.ref D) env).onRaise (fun x => do noteFrame x env; theTreesLotGoes x)) _ _ s
  refine wpAny_noted ?_
  rw [turn2D_out]
  refine wpAny_bind (wpAny_standAt (wpAny_bind (wpAny_mono (turn n s hI) (fun r r₁ q₁ => ?_) fun _ _ k' => k')))
  cases r with
  | none => exact wpAny_pure q₁
  | some v =>
    refine wpAny_bind (wpAny_mono q₁ (fun _ r₁' q₁' => ?_) fun _ _ k' => k')
    refine wpAny_bind (wpAny_mono q₁' (fun _ r₂ q₂ => wpAny_bind (wpAny_mono q₂ (fun ok r₃ q₃ => ?_) fun _ _ k' => k')) fun _ _ k' => k')
    cases ok with
    | false => exact wpAny_pure ⟨rfl, q₃⟩
    | true =>
      refine wpAny_bind (wpAny_mono q₃ (fun x r₄ q₄ => ?_) fun _ _ k' => k')
      refine wpAny_bind (wpAny_standAt (wpAny_bind (wpAny_of_eq (hs x) (wpAny_bind (wpAny_holding (wpAny_mono q₄ (fun it1 r₅ q₅ => ?_) fun _ _ k' => k'))))))
      refine wpAny_bind (wpAny_runOwn ?_)
      rw [Around.mark_none]
      refine codeAny_mono q₅ fun r s' hr => ?_
      cases r with
      | ok f =>
        first
          | exact wpAny_pure ⟨rfl, hr⟩
          | exact wpAny_bind (wpAny_pure (wpAny_pure ⟨rfl, hr⟩))
      | error e => exact hr.elim
/-- .. of the second -/
theorem loop2D_in (I : Nat → Shared → Prop)
    (turn : ∀ n s, I n s → wpAny (model prog w) A (pyNext it) (fun r r₁ => match r with
      | none => R (.ok .next) r₁
      | some v => wpAny (model prog w) A (letOwnedTupleGo t1 it v) (fun _ r₁' => wpAny (model prog w) A (assign t1 env v) (fun _ r₂ =>
          wpAny (model prog w) A (forIn tests1 true fun c r => if r = true then do let ok ← isTrue c env (eval c env); pure (ForInStep.yield ok) else pure (ForInStep.yield r)) (fun ok r₃ =>
            if ok = true then wpAny (model prog w) A (eval kx env) (fun kv r₄ => wpAny (model prog w) A (eval vx env) (fun vv r₅ =>
              wpAny (model prog w) A (dictSet D kv vv) (fun _ r₆ => ∃ m, m < n ∧ I m r₆) (notedBy (model prog w) A env fun e s' => R (.error e) s') r₅) (notedBy (model prog w) A env fun e s' => R (.error e) s') r₄) (notedBy (model prog w) A env fun e s' => R (.error e) s') r₃
            else ∃ m, m < n ∧ I m r₃) (notedBy (model prog w) A env fun e s' => R (.error e) s') r₂) (notedBy (model prog w) A env fun e s' => R (.error e) s') r₁') (notedBy (model prog w) A env fun e s' => R (.error e) s') r₁) (notedBy (model prog w) A env fun e s' => R (.error e) s') s)
    (n : Nat) (h : I n s) :
    codeAny (model prog w) A (.compLoop (.DictComp kx vx [⟨t0, i0, tests0, 0⟩, ⟨t1, i1, tests1, 0⟩] scope pos) 1 it (.ref D) env) R s := by
  refine codeAny_loop rfl I (fun n s hI => ?_) n h
  show wpAny _ A ((compTurn (.DictComp kx vx [⟨t0, i0, tests0, 0⟩, ⟨t1, i1, tests1, 0⟩] scope pos) 1 it (.ref D) env).onRaise (fun x => do noteFrame x env; theTreesLotGoes x)) _ _ s
  refine wpAny_noted ?_
  rw [turn2D_in]
  refine wpAny_bind (wpAny_standAt (wpAny_bind (wpAny_mono (turn n s hI) (fun r r₁ q₁ => ?_) fun _ _ k' => k')))
  cases r with
  | none => exact wpAny_pure q₁
  | some v =>
    refine wpAny_bind (wpAny_mono q₁ (fun _ r₁' q₁' => ?_) fun _ _ k' => k')
    refine wpAny_bind (wpAny_mono q₁' (fun _ r₂ q₂ => wpAny_bind (wpAny_mono q₂ (fun ok r₃ q₃ => ?_) fun _ _ k' => k')) fun _ _ k' => k')
    cases ok with
    | false => exact wpAny_pure ⟨rfl, q₃⟩
    | true =>
      exact wpAny_bind (wpAny_bind (wpAny_mono q₃ (fun kv r₄ q₄ => wpAny_bind (wpAny_holding (wpAny_mono q₄ (fun vv r₅ q₅ => wpAny_bind (wpAny_standAt (wpAny_holding (wpAny_mono q₅ (fun _ r₆ q₆ => wpAny_pure ⟨rfl, q₆⟩) fun _ _ k' => k')))) fun _ _ k' => k'))) fun _ _ k' => k'))
/-- the second clause's start -/
theorem start1D_ok (h0 : codeAny (model prog w) A (.compLoop (.DictComp kx vx [⟨t0, i0, tests0, 0⟩, ⟨t1, i1, tests1, 0⟩] scope pos) 1 it (.ref D) env) R s)
    (h : wpAny (model prog w) A (pyIter it) (fun it' s' => codeAny (model prog w) A (.compLoop (.DictComp kx vx [⟨t0, i0, tests0, 0⟩, ⟨t1, i1, tests1, 0⟩] scope pos) 1 it' (.ref D) env) R s')
      (notedBy (model prog w) A env fun x s' => R (.error x) s') s) :
    codeAny (model prog w) A (.compStart (.DictComp kx vx [⟨t0, i0, tests0, 0⟩, ⟨t1, i1, tests1, 0⟩] scope pos) 1 it (.ref D) env) R s := by
  refine codeAny_of_tree ?_
  show wpAny _ _ ((compStart (.DictComp kx vx [⟨t0, i0, tests0, 0⟩, ⟨t1, i1, tests1, 0⟩] scope pos) 1 it (.ref D) env).onRaise (fun x => do noteFrame x env; standAt theWindowsPlace)) _ _ s
  refine wpAny_notedAt ?_
  unfold compStart
  show wpAny _ _ (ask >>= _) _ _ s
  refine wpAny_bind (wpAny_askSetting (wpAny_ite ?_))
  split
  · first
      | exact wpAny_bind (wpAny_pure (wpAny_pure (And.intro rfl h0)))
      | exact wpAny_pure (And.intro rfl h0)
  · first
      | exact wpAny_bind (wpAny_rule (wpAny_bind (wpAny_standAt (wpAny_bind (wpAny_mono h (fun it' s' k' => wpAny_pure (And.intro rfl k')) fun _ _ x => x)))))
      | (refine wpAny_bind (wpAny_rule ?_); show wpAny _ _ (standAt i1.pos >>= _) _ _ s; exact wpAny_bind (wpAny_standAt (wpAny_bind (wpAny_mono h (fun it' s' k' => wpAny_pure (And.intro rfl k')) fun _ _ x => x))))
end
section
variable {X : Cx}
def tDc2 (wi : TI) (g : TG) (tt : TT) (wi1 : TI) (g1 : TG) (tt1 : TT) (tk tv : TE) (vs vs1 : List Nat) : TE := fun σ H Q => wi σ H fun J H1 => ∀ D, H1 D = none → Turns J g tt (lf2 wi1 g1 tt1 (lfD tk tv D) vs1) vs σ (upd H1 D (.dK [])) fun H => Q (.ref D) H
theorem dc2_core {pins : List (Addr × Obj)} {s : Shared} {σ : L2.St} {H : Hp} {Q : VK} {kx vx tg iter tg1 iter1 : Expr} {tests0 tests1 : List Expr} {scope : Scope} {own : List (Str × Nat)} {vs1 : List Nat} {pos pos' : Pos} {wi wi1 : TI} {g g1 : TG} {tt tt1 : TT} {tk tv : TE} {use : Option (Value → Sem Unit)} {Qf : Value → Shared → Prop}
    (hc : X.calm = true) (hN : X.N.Nodup) (I : Inv X pins σ H s) (hi : PI X tg iter wi) (ok : BlkOk X.N X.env.scope scope own) (hv : ∀ i ∈ vs1, i ∈ own.map (·.2))
    (hg : ∀ (s : Shared) (H : Hp) (C : Addr) (cl : List (Str × Addr)) (fp : List Addr), PG (X.blk s H scope (compEnvC scope cl C X.env) fp) tg g) (ht : ∀ (s : Shared) (H : Hp) (C : Addr) (cl : List (Str × Addr)) (fp : List Addr), PTs (X.blk s H scope (compEnvC scope cl C X.env) fp) tests0 tt)
    (hk : ∀ (s : Shared) (H : Hp) (C : Addr) (cl : List (Str × Addr)) (fp : List Addr), PE (X.blk s H scope (compEnvC scope cl C X.env) fp) kx tk)
    (he : ∀ (s : Shared) (H : Hp) (C : Addr) (cl : List (Str × Addr)) (fp : List Addr), PE (X.blk s H scope (compEnvC scope cl C X.env) fp) vx tv) (hs : ∀ x, foldedSetIterable iter X.env x = pure x)
    (hi1 : ∀ (s : Shared) (H : Hp) (C : Addr) (cl : List (Str × Addr)) (fp : List Addr), PI (X.blk s H scope (compEnvC scope cl C X.env) fp) tg1 iter1 wi1)
    (hg1 : ∀ (s : Shared) (H : Hp) (C : Addr) (cl : List (Str × Addr)) (fp : List Addr), PG (X.blk s H scope (compEnvC scope cl C X.env) fp) tg1 g1)
    (ht1 : ∀ (s : Shared) (H : Hp) (C : Addr) (cl : List (Str × Addr)) (fp : List Addr), PTs (X.blk s H scope (compEnvC scope cl C X.env) fp) tests1 tt1)
    (hs1 : ∀ env x, foldedSetIterable iter1 env x = pure x)
    (h : tDc2 wi g tt wi1 g1 tt1 tk tv (own.map (·.2)) vs1 σ H Q)
    (hEnd : ∀ D C s' m H', Inv X pins σ H' s' → Q (.ref D) H' → s'.heap.Ns C m → FpOk X pins H' C → compPost (model X.prog X.w) X.A X.xe use Qf (.ref D) C (.ok .next) s') :
    wpAny (model X.prog X.w) X.A (comprehension (.DictComp kx vx [⟨tg, iter, tests0, 0⟩, ⟨tg1, iter1, tests1, 0⟩] scope pos) scope X.env pos' newDict false (eval iter X.env) use) Qf X.xe s := by
  have hfr : ∀ y ∈ scope.names, y.2 = .free → ∃ c, X.env.cells.lookup y.1 = some c := fun y hy e => by
    rcases ok.free y hy e with k | k
    · exact I.ok.has _ (.inl k)
    · exact I.ok.has _ (.inr k)
  refine wpAny_comprehension_free (use := use) rfl hs (closure_ok hfr) ok.kind (fun y hy e => by rw [ok.uniq y hy, e])
    (thn (hi.run pins s σ H _ I h) fun xv z1 hx => thn hx fun itv z2 h2 => ?_)
  obtain ⟨it, fp, tn, J, G2, e, V2, T, st2, f2, q⟩ := h2
  subst e
  refine wpAny_newObj_type (newEnv_comp ?_)
  generalize hD : z2.heap.objs.size = D
  have hDn : G2 D = none := V2.hok.fresh (Nat.le_of_eq hD)
  obtain ⟨W, ⟨m0, w0⟩, each0⟩ := q D hDn
  -- a new dict
  generalize hz3 : ({ z2 with heap := z2.heap.push { cls := .type "dict", data := .dict #[] } } : Shared) = z3
  have V3 : Inv X pins σ (upd G2 D (.dK [])) z3 := by
    rw [← hz3]
    refine V2.laid (t' := z2.toks) (fun b o e => Heap.get?_push_of_some _ e) (Nat.le_of_eq hD) ?_
    rw [← hD]
    exact dk_empty z2.heap V2.big
  have h3 : z3.heap = z2.heap.push { cls := .type "dict", data := .dict #[] } := by rw [← hz3]
  have sz : ∀ b ∈ fp, b < z2.heap.objs.size := fun b hb => by
    obtain ⟨o, e, _⟩ := T.obj _ _ st2 b hb
    exact Heap.lt_size e
  have f3 : ∀ b ∈ fp, FpOk X pins (upd G2 D (.dK [])) b ∧ b < z3.heap.objs.size := fun b hb => by
    have hlt := sz b hb
    refine ⟨⟨?_, (f2 b hb).2⟩, by rw [h3, Heap.size_push]; exact Nat.lt_succ_of_lt hlt⟩
    rw [upd_ne (by rw [← hD]; exact Nat.ne_of_lt hlt)]
    exact (f2 b hb).1
  have stt3 : tn 0 z3.heap := T.keep _ _ _ st2 fun b _ o e => by rw [h3]; exact Heap.get?_push_of_some _ e
  have V4 := block_start V3 ok hN f3
  have qg := hg z3 (upd G2 D (.dK [])) z3.heap.objs.size (cellsFrom (z3.heap.objs.size + 1) scope.names (cloFrom X.env.cells scope.names [])) fp
  have qt := ht z3 (upd G2 D (.dK [])) z3.heap.objs.size (cellsFrom (z3.heap.objs.size + 1) scope.names (cloFrom X.env.cells scope.names [])) fp
  have qk := hk z3 (upd G2 D (.dK [])) z3.heap.objs.size (cellsFrom (z3.heap.objs.size + 1) scope.names (cloFrom X.env.cells scope.names [])) fp
  have qe := he z3 (upd G2 D (.dK [])) z3.heap.objs.size (cellsFrom (z3.heap.objs.size + 1) scope.names (cloFrom X.env.cells scope.names [])) fp
  have qi1 := hi1 z3 (upd G2 D (.dK [])) z3.heap.objs.size (cellsFrom (z3.heap.objs.size + 1) scope.names (cloFrom X.env.cells scope.names [])) fp
  have qg1 := hg1 z3 (upd G2 D (.dK [])) z3.heap.objs.size (cellsFrom (z3.heap.objs.size + 1) scope.names (cloFrom X.env.cells scope.names [])) fp
  have qt1 := ht1 z3 (upd G2 D (.dK [])) z3.heap.objs.size (cellsFrom (z3.heap.objs.size + 1) scope.names (cloFrom X.env.cells scope.names [])) fp
  show codeAny _ _ (.compStart (.DictComp kx vx [⟨tg, iter, tests0, 0⟩, ⟨tg1, iter1, tests1, 0⟩] scope pos) 0 (.ref it) (.ref D) (compEnvC scope (cellsFrom (z3.heap.objs.size + 1) scope.names (cloFrom X.env.cells scope.names [])) z3.heap.objs.size X.env)) (compPost (model X.prog X.w) X.A X.xe use Qf (.ref D) z3.heap.objs.size) { z3 with heap := pushCells (z3.heap.push { cls := .type "dict", data := .dict #[] }) scope.names }
  have nff : ∀ b ∈ fp, (upd G2 D (.dK [])) b = none := fun b hb => (f3 b hb).1.1
  generalize hce : compEnvC scope (cellsFrom (z3.heap.objs.size + 1) scope.names (cloFrom X.env.cells scope.names [])) z3.heap.objs.size X.env = cv at V4 qg qt qk qe qi1 qg1 qt1 ⊢
  have cLo : cv.locals = z3.heap.objs.size := by subst hce; rfl
  generalize hH3 : upd G2 D (.dK []) = G3 at V3 V4 qg qt qk qe qi1 qg1 qt1 w0 nff f3
  generalize hs4 : ({ z3 with heap := pushCells (z3.heap.push { cls := .type "dict", data := .dict #[] }) scope.names } : Shared) = z4 at V4 ⊢
  have stt4 : tn 0 z4.heap := T.keep _ _ _ stt3 fun b _ o e => by rw [← hs4]; exact pushCells_keeps _ _ _ _ (Heap.get?_push_of_some _ e)
  have pinA : ∀ {σ' : L2.St} {H' : Hp} {s' : Shared}, Inv (X.blk z3 G3 scope cv fp) [] σ' H' s' → (∀ b ∈ fp, H' b = none) → ∀ b ∈ fp, FpOk (X.blk z3 G3 scope cv fp) [] H' b := fun {σ' H' s'} I' hn b hb =>
    ⟨hn b hb, (I'.ok.exf b hb).1, I'.ok.exfs b hb, .inl hb, fun x c e => (I'.ok.exf b hb).2 x c e, fun p hp => absurd (show p ∈ ([] : List (Addr × Obj)) ++ [] from hp) (by simp)⟩
  have lp0 : codeAny (model X.prog X.w) X.A (.compLoop (.DictComp kx vx [⟨tg, iter, tests0, 0⟩, ⟨tg1, iter1, tests1, 0⟩] scope pos) 0 (.ref it) (.ref D) cv) (compPost (model X.prog X.w) X.A X.xe use Qf (.ref D) z3.heap.objs.size) z4 := by
    refine loop2D_out (hs1 cv) (fun n s' => ∃ i H', Inv (X.blk z3 G3 scope cv fp) [] (wipe σ (own.map (·.2))) H' s' ∧ tn i s'.heap ∧ (∀ b ∈ fp, H' b = none) ∧ W i n H') ?_ m0 ⟨0, G3, V4, stt4, nff, w0⟩
    rintro n z5 ⟨i, G5, V5, st5, n5, w5⟩
    rcases each0 i n G5 w5 with ⟨stop, qq⟩ | ⟨go, Nx, hNx, go_out⟩
    · have td := T.done (X.blk z3 G3 scope cv fp) rfl rfl rfl hc i [] z5 _ G5 (fun _ _ => False) V5 (pinA V5 n5) st5 stop
      refine thnF td fun r z6 ⟨hr, V6⟩ => ?_
      subst hr
      -- the def's own context
      have V7 : Inv X pins σ G5 z6 := V3.call' (ch := fp) V6.os V6.base V6.hok V6.bare fun b hb => ⟨(f3 b hb).1.2.2.2.1, (f3 b hb).1.2.1, (f3 b hb).1.2.2.2.2.1, (f3 b hb).1.2.2.2.2.2⟩
      have noC : G5 z3.heap.objs.size = none := by
        have z : G5 cv.locals = none := V6.free
        rw [cLo] at z
        exact z
      obtain ⟨m, hn, _⟩ := V6.loc
      have hn : z6.heap.Ns cv.locals m := hn
      rw [cLo] at hn
      exact hEnd D z3.heap.objs.size z6 m G5 V7 qq hn (V3.fpOk (Nat.le_refl _) noC)
    · have ti := T.item (X.blk z3 G3 scope cv fp) rfl rfl rfl hc i [] z5 _ G5 (fun _ _ => False) V5 (pinA V5 n5) st5 go
      refine thnF ti fun r z6 ⟨u, hr, h6⟩ => ?_
      subst hr
      refine thnF h6 fun _ z7 ⟨x, G7, V7, r7, y7, st7, n7⟩ => ?_
      have V7' := V7.pinned (pinA V7 n7) (T.obj _ _ st7)
      refine thnF (qg.run _ z7 _ G7 x u _ V7' r7 (go_out x G7 y7)) fun _ z8 ⟨σ8, G8, V8, hv8, q8⟩ => ?_
      refine thnF (qt.run _ z8 σ8 G8 _ V8 q8) fun b z9 ⟨G9, V9, q9⟩ => ?_
      -- the turn's end, from any slots that know what the block knew at its start
      have end0 : ∀ {σ9 : L2.St} {s' : Shared} {H' : Hp}, Inv (X.blk z3 G3 scope cv fp) ([] ++ pinsAt fp z7.heap) σ9 H' s' → (wipe σ (own.map (·.2))).length = σ9.length → (∀ (j : Nat) v, (wipe σ (own.map (·.2)))[j]? = some (some v) → σ9[j]? = some (some v)) → Nx H' →
          ∃ m, m < n ∧ ∃ i H', Inv (X.blk z3 G3 scope cv fp) [] (wipe σ (own.map (·.2))) H' s' ∧ tn i s'.heap ∧ (∀ b ∈ fp, H' b = none) ∧ W i m H' := fun {σ9 s' H'} I' hl hk nx => by
        obtain ⟨m', hm, w'⟩ := hNx H' nx
        have pn' : ∀ b ∈ fp, ∀ o, z7.heap.get? b = some o → s'.heap.get? b = some o ∧ H' b = none := fun b hb o e =>
          let z := I'.pin (b, o) (List.mem_append_right _ (List.mem_append_right _ (mem_pinsAt hb e)))
          ⟨z.1, z.2.1⟩
        refine ⟨m', hm, i + 1, H', (I'.unpinned (pins := [])).weak hl hk, T.keep _ _ _ st7 fun b hb o e => (pn' b hb o e).1, fun b hb => ?_, w'⟩
        obtain ⟨o, e, _⟩ := T.obj _ _ st7 b hb
        exact (pn' b hb o e).2
      have hl8 : (wipe σ (own.map (·.2))).length = σ8.length := by rw [← hv8, wipe_length]
      have hk8 : ∀ (j : Nat) v, (wipe σ (own.map (·.2)))[j]? = some (some v) → σ8[j]? = some (some v) := fun j v e => by
        rw [← hv8] at e
        exact (wipe_some e).1
      have hk9 : ∀ (j : Nat) v, (wipe σ (own.map (·.2)))[j]? = some (some v) → (wipe σ8 vs1)[j]? = some (some v) := fun j v e => by
        rw [← hv8] at e
        obtain ⟨e1, e2⟩ := wipe_some e
        rw [wipe_out fun z => e2 (hv j z)]
        exact e1
      cases b with
      | false =>
        simp only [Bool.false_eq_true, if_false] at q9 ⊢
        exact end0 V9 hl8 hk8 q9
      | true =>
        simp only [if_true] at q9 ⊢
        refine thnF (qi1.run _ z9 σ8 G9 _ V9 q9) fun xv z10 hx => thnF hx fun itv z11 h11 => ?_
        obtain ⟨it1, fp1, tn1, J1, G11, e1, V11, T1, st11, f11, W1, ⟨m1, w1⟩, each1⟩ := h11
        subst e1
        -- within
        have pinA1 : ∀ {H' : Hp}, (∀ b ∈ fp1, H' b = none) → ∀ b ∈ fp1, FpOk (X.blk z3 G3 scope cv fp) ([] ++ pinsAt fp z7.heap) H' b := fun hn b hb => ⟨hn b hb, (f11 b hb).2⟩
        have lp1 : codeAny (model X.prog X.w) X.A (.compLoop (.DictComp kx vx [⟨tg, iter, tests0, 0⟩, ⟨tg1, iter1, tests1, 0⟩] scope pos) 1 (.ref it1) (.ref D) cv)
            (fun r s' => match r with
              | .ok _ => ∃ m, m < n ∧ ∃ i H', Inv (X.blk z3 G3 scope cv fp) [] (wipe σ (own.map (·.2))) H' s' ∧ tn i s'.heap ∧ (∀ b ∈ fp, H' b = none) ∧ W i m H'
              | .error _ => False) z11 := by
          refine loop2D_in (fun k s' => ∃ j H', Inv (X.blk z3 G3 scope cv fp) ([] ++ pinsAt fp z7.heap) (wipe σ8 vs1) H' s' ∧ tn1 j s'.heap ∧ (∀ b ∈ fp1, H' b = none) ∧ W1 j k H') ?_ m1 ⟨0, G11, V11.weak (wipe_length _ _) (fun j v e => (wipe_some e).1), st11, fun b hb => (f11 b hb).1, w1⟩
          rintro k z12 ⟨j, G12, V12, st12, n12, w12⟩
          rcases each1 j k G12 w12 with ⟨stop1, nx1⟩ | ⟨go1, Nx1, hNx1, go_in⟩
          · refine thnF (T1.done (X.blk z3 G3 scope cv fp) rfl rfl rfl hc j _ z12 (wipe σ8 vs1) G12 (fun _ _ => False) V12 (pinA1 n12) st12 stop1) fun r z13 ⟨hr, V13⟩ => ?_
            subst hr
            exact end0 V13 (hl8.trans (wipe_length σ8 vs1).symm) hk9 nx1
          · refine thnF (T1.item (X.blk z3 G3 scope cv fp) rfl rfl rfl hc j _ z12 (wipe σ8 vs1) G12 (fun _ _ => False) V12 (pinA1 n12) st12 go1) fun r z13 ⟨u1, hr, h13⟩ => ?_
            subst hr
            refine thnF h13 fun _ z14 ⟨x1, G14, V14, r14, y14, st14, n14⟩ => ?_
            have V14' := V14.pinned (pinA1 n14) (T1.obj _ _ st14)
            refine thnF (qg1.run _ z14 (wipe σ8 vs1) G14 x1 u1 _ V14' r14 (go_in x1 G14 y14)) fun _ z15 ⟨σ15, G15, V15, hw15, q15⟩ => ?_
            refine thnF (qt1.run _ z15 σ15 G15 _ V15 q15) fun b1 z16 ⟨G16, V16, q16⟩ => ?_
            have end1 : ∀ {s' : Shared} {H' : Hp}, Inv (X.blk z3 G3 scope cv fp) (([] ++ pinsAt fp z7.heap) ++ pinsAt fp1 z14.heap) σ15 H' s' → Nx1 H' → ∃ m, m < k ∧ ∃ j H', Inv (X.blk z3 G3 scope cv fp) ([] ++ pinsAt fp z7.heap) (wipe σ8 vs1) H' s' ∧ tn1 j s'.heap ∧ (∀ b ∈ fp1, H' b = none) ∧ W1 j m H' := fun {s' H'} I' nx => by
              obtain ⟨m', hm, w'⟩ := hNx1 H' nx
              have pn' : ∀ b ∈ fp1, ∀ o, z14.heap.get? b = some o → s'.heap.get? b = some o ∧ H' b = none := fun b hb o e =>
                let z := I'.pin (b, o) (List.mem_append_right _ (List.mem_append_right _ (mem_pinsAt hb e)))
                ⟨z.1, z.2.1⟩
              refine ⟨m', hm, j + 1, H', I'.unpinned.weak (by rw [← hw15, wipe_length]) (fun j v e => by rw [← hw15] at e; exact (wipe_some e).1), T1.keep _ _ _ st14 fun b hb o e => (pn' b hb o e).1, fun b hb => ?_, w'⟩
              obtain ⟨o, e, _⟩ := T1.obj _ _ st14 b hb
              exact (pn' b hb o e).2
            cases b1 with
            | false =>
              simp only [Bool.false_eq_true, if_false] at q16 ⊢
              exact end1 V16 q16
            | true =>
              simp only [if_true] at q16 ⊢
              refine thnF (qk.run _ z16 σ15 G16 _ V16 q16) fun z z17 ⟨yk, G17, V17, r17, q17⟩ => ?_
              refine thnF (qe.run _ z17 σ15 G17 _ V17 q17) fun z2 z18 ⟨yv, G18, V18, r18, kvs, k2, ek, hD18, hz18, nx⟩ => ?_
              subst ek
              exact d_dictSet (X := X.blk z3 G3 scope cv fp) V18 hD18 hz18 r17 r18 fun z19 V19 => end1 V19 nx
        exact start1D_ok lp1 (T1.self X.A 0 _ _ _ st11 lp1)
  exact codeAny_compStart_dict lp0 (T.self X.A 0 _ _ _ stt4 lp0)
theorem pe_dc2 {kx vx tg iter tg1 iter1 : Expr} {tests0 tests1 : List Expr} {scope : Scope} {own : List (Str × Nat)} {vs1 : List Nat} {pos : Pos} {wi wi1 : TI} {g g1 : TG} {tt tt1 : TT} {tk tv : TE}
    (hc : X.calm = true) (hN : X.N.Nodup) (hi : PI X tg iter wi) (ok : BlkOk X.N X.env.scope scope own) (hv : ∀ i ∈ vs1, i ∈ own.map (·.2))
    (hg : ∀ (s : Shared) (H : Hp) (C : Addr) (cl : List (Str × Addr)) (fp : List Addr), PG (X.blk s H scope (compEnvC scope cl C X.env) fp) tg g) (ht : ∀ (s : Shared) (H : Hp) (C : Addr) (cl : List (Str × Addr)) (fp : List Addr), PTs (X.blk s H scope (compEnvC scope cl C X.env) fp) tests0 tt)
    (hi1 : ∀ (s : Shared) (H : Hp) (C : Addr) (cl : List (Str × Addr)) (fp : List Addr), PI (X.blk s H scope (compEnvC scope cl C X.env) fp) tg1 iter1 wi1)
    (hg1 : ∀ (s : Shared) (H : Hp) (C : Addr) (cl : List (Str × Addr)) (fp : List Addr), PG (X.blk s H scope (compEnvC scope cl C X.env) fp) tg1 g1)
    (ht1 : ∀ (s : Shared) (H : Hp) (C : Addr) (cl : List (Str × Addr)) (fp : List Addr), PTs (X.blk s H scope (compEnvC scope cl C X.env) fp) tests1 tt1)
    (hk : ∀ (s : Shared) (H : Hp) (C : Addr) (cl : List (Str × Addr)) (fp : List Addr), PE (X.blk s H scope (compEnvC scope cl C X.env) fp) kx tk)
    (he : ∀ (s : Shared) (H : Hp) (C : Addr) (cl : List (Str × Addr)) (fp : List Addr), PE (X.blk s H scope (compEnvC scope cl C X.env) fp) vx tv)
    (hs : ∀ x, foldedSetIterable iter X.env x = pure x) (hs1 : ∀ env x, foldedSetIterable iter1 env x = pure x) :
    PE X (.DictComp kx vx [⟨tg, iter, tests0, 0⟩, ⟨tg1, iter1, tests1, 0⟩] scope pos) (tDc2 wi g tt wi1 g1 tt1 tk tv (own.map (·.2)) vs1) := by
  refine ⟨fun pins s σ H Q I h => ?_⟩
  rw [arm_eval_DictComp]
  refine dc2_core hc hN I hi ok hv hg ht hk he hs hi1 hg1 ht1 hs1 h fun D C s' m H' I' q hn f => ⟨m, hn, fun h'' sb => ?_⟩
  obtain ⟨f0, f1, f2, f3, f4, f5⟩ := f
  exact ⟨.ref D, H', I'.turned (t' := s'.toks) (fun b o hb e => (sb.2 b hb).trans e) f0 f1 f3 f4 f5, rfl, q⟩
end
end KwD2
namespace Kw
open PySem PySem.Spec PyProof.Rows L2 KwD2
section
variable {X : Cx} {S : SI} {W : WX} {kx vx tg iter tg1 iter1 : Expr} {ifs ifs1 : List Expr} {scope : Scope} {own : List (Str × Nat)} {vs1 : List Nat} {pos : Pos} {mi mi1 : IM} {g g1 : GM} {gV gV1 : TG} {mt mt1 : TM} {me mk mv : EM}
theorem pe_dc2K (hc : X.calm = true) (hN : X.N.Nodup) (hi : PI X tg iter (TIm X S W mi)) (ok : BlkOk X.N X.env.scope scope own) (hv : ∀ i ∈ vs1, i ∈ own.map (·.2)) (hn : NmTg X.K X.mg S (own.map (·.2)) gV g) (hn1 : NmTg X.K X.mg S vs1 gV1 g1)
    (hg : ∀ (s : Shared) (H : Hp) (C : Addr) (cl : List (Str × Addr)) (fp : List Addr), PG (X.blk s H scope (compEnvC scope cl C X.env) fp) tg gV) (ht : ∀ (s : Shared) (H : Hp) (C : Addr) (cl : List (Str × Addr)) (fp : List Addr), PTs (X.blk s H scope (compEnvC scope cl C X.env) fp) ifs (TTm X S W0 mt))
    (hi1 : ∀ (s : Shared) (H : Hp) (C : Addr) (cl : List (Str × Addr)) (fp : List Addr), PI (X.blk s H scope (compEnvC scope cl C X.env) fp) tg1 iter1 (TIm X S W0 mi1)) (hg1 : ∀ (s : Shared) (H : Hp) (C : Addr) (cl : List (Str × Addr)) (fp : List Addr), PG (X.blk s H scope (compEnvC scope cl C X.env) fp) tg1 gV1)
    (ht1 : ∀ (s : Shared) (H : Hp) (C : Addr) (cl : List (Str × Addr)) (fp : List Addr), PTs (X.blk s H scope (compEnvC scope cl C X.env) fp) ifs1 (TTm X S W0 mt1))
    (hk : ∀ (s : Shared) (H : Hp) (C : Addr) (cl : List (Str × Addr)) (fp : List Addr), PE (X.blk s H scope (compEnvC scope cl C X.env) fp) kx (TEm X S W0 mk)) (he : ∀ (s : Shared) (H : Hp) (C : Addr) (cl : List (Str × Addr)) (fp : List Addr), PE (X.blk s H scope (compEnvC scope cl C X.env) fp) vx (TEm X S W0 mv))
    (hs : ∀ x, foldedSetIterable iter X.env x = pure x := by intro _; rfl) (hs1 : ∀ env x, foldedSetIterable iter1 env x = pure x := by intro _ _; rfl) :
    PE X (.DictComp kx vx [⟨tg, iter, ifs, 0⟩, ⟨tg1, iter1, ifs1, 0⟩] scope pos) (TEm X S W <| eDc2 mi g mt mi1 g1 mt1 mk mv (own.map (·.2)) vs1) :=
  PEi (pe_dc2 hc hN hi ok hv hg ht hi1 hg1 ht1 hk he hs hs1) fun σ H Q h => accTop (W := W) (RA := RAd X.K X.mg) (LF := fun D => lf2 _ _ _ (lfD _ _ D) vs1) accR_d hn (fun D => leaf_2 accR_d hn1 leaf_d) (fun w => ⟨[], rfl, .nil⟩) nofun nofun fin_dct h
end
end Kw
set_option Elab.async false
set_option linter.all false
set_option maxRecDepth 100000
namespace Kw
open PySem PySem.Spec PyProof.Rows L2 KwD2
end Kw
set_option Elab.async false
set_option linter.all false
set_option maxRecDepth 100000
set_option maxHeartbeats 2000000
namespace Kw
open PySem PySem.Spec PyProof.Rows L2
open LamX (Tabs TabS TabB ExtN LamS lamCx lamEnv CodeO)
/-- x(v), v a def without arguments out of tbl -/
def eHrdV (F : AskM → Mem → Out D) (i : Nat) (tbl : List (Str × FM)) : EM := fun δ μ => match δ[i]? with
  | some (some (.glb y)) => match tbl.lookup y with
    | some m => match F (fun μ' => callP m [] μ') μ with
      | .ok d μ' => .ok d μ'
      | _ => .stuck
    | none => .stuck
  | _ => .stuck
section
variable {X : Cx} {S : SI} {W : WX} {x a v y : Str} {st : Stmt} {F : AskM → Mem → Out D} {k i : Nat} {p p1 p2 pos : Pos}
theorem GlD.defD {P : Program} {w : World} {K : PySem.W.Frag} {mg : Str → Option Value} {base : Heap} {T : List (Addr × Str)} {k : Nat} {ps : List Str} {m : FM} {st : Stmt} (C : CalD P w K mg base T x st k ps m) : GlD K mg x (.glb x) :=
  let ⟨f, _, _, hm, _, _⟩ := C.ex
  ⟨.ref f, .ref f, hm, rfl, fun _ => .glb hm⟩
/-- .. each entry of the table is a def that does so -/
def TblD (P : Program) (w : World) (K : PySem.W.Frag) (mg : Str → Option Value) (base : Heap) (T : List (Addr × Str)) (k : Nat) (tbl : List (Str × FM)) : Prop := ∀ y m, tbl.lookup y = some m → ∃ st, CalD P w K mg base T y st k [] m
theorem TblD.nil {P : Program} {w : World} {K : PySem.W.Frag} {mg : Str → Option Value} {base : Heap} {T : List (Addr × Str)} {k : Nat} : TblD P w K mg base T k [] := fun y m h => by cases h
theorem TblD.cons {P : Program} {w : World} {K : PySem.W.Frag} {mg : Str → Option Value} {base : Heap} {T : List (Addr × Str)} {k j : Nat} {y : Str} {m : FM} {st : Stmt} {tbl : List (Str × FM)} (C : CalD P w K mg base T y st j [] m) (hj : j ≤ k) (h : TblD P w K mg base T k tbl) : TblD P w K mg base T k ((y, m) :: tbl) := fun z n e => by
  rw [List.lookup_cons] at e
  split at e
  · next q =>
    have : z = y := by simpa using q
    subst this
    cases e
    obtain ⟨f, fd, FP, hm, hb, G⟩ := C.ex
    exact ⟨st, f, fd, FP, hm, hb, G.mono hj⟩
  · exact h z n e
end
@[simp] theorem eHrdV_run {F : AskM → Mem → Out D} {i : Nat} {tbl : List (Str × FM)} {δ : Sv} {μ : Mem} : eHrdV F i tbl δ μ = match δ[i]? with
  | some (some (.glb y)) => match tbl.lookup y with
    | some m => match F (fun μ' => callP m [] μ') μ with
      | .ok d μ' => .ok d μ'
      | _ => .stuck
    | none => .stuck
  | _ => .stuck := nr rfl
def gMax3 : List D → Mem → Option D
  | [.int i, .int j, .int k], _ => some (.int (if (if i < j then j else i) < k then k else if i < j then j else i))
  | _, _ => none
def lowI : Int → List Int → Int
  | m, [] => m
  | m, n :: ns => lowI (if n < m then n else m) ns
theorem lowI_le : ∀ (ns : List Int) (m : Int), lowI m ns ≤ m ∧ ∀ n ∈ ns, lowI m ns ≤ n
  | [], m => ⟨Int.le_refl _, fun n h => absurd h List.not_mem_nil⟩
  | a :: ns, m => by
    obtain ⟨h1, h2⟩ := lowI_le ns (if a < m then a else m)
    rw [lowI]
    refine ⟨by split at h1 <;> split <;> omega, fun n hn => ?_⟩
    rcases List.mem_cons.mp hn with rfl | q
    · split at h1 <;> split <;> omega
    · exact h2 n q
theorem lowI_mem : ∀ (ns : List Int) (m : Int), lowI m ns ∈ m :: ns
  | [], m => .head _
  | a :: ns, m => by
    rw [lowI]
    have h := lowI_mem ns (if a < m then a else m)
    rcases List.mem_cons.mp h with q | q
    · rw [q]
      split
      · exact .tail _ (.head _)
      · exact .head _
    · exact .tail _ (.tail _ q)
def gMinL : List D → Mem → Option D
  | [x], μ => match lstOf μ x with
    | some xs => match intsOf xs with
      | some (b :: bs) => some (.int (lowI b bs))
      | _ => none
    | none => none
  | _, _ => none
section
variable {K : PySem.W.Frag} {mg : Str → Option Value} {T : List (Addr × Str)} {xs : List V} {H : Hp} {Q : VK}
theorem minL_r (h : rDs K mg T gMinL xs H Q) : rMin K xs H Q := by
  obtain ⟨w, μ, ds, d, r, rs, e, q⟩ := h
  unfold gMinL at e
  split at e
  · obtain ⟨x, rfl, rx⟩ := rs.one1
    split at e
    · next ys hy =>
      obtain ⟨a, vs, rfl, h2, h3⟩ := lstOf_rel r rx hy
      split at e
      · next b bs hb =>
        cases e
        refine ⟨a, b :: bs, rfl, by rw [← ints_r h3 hb]; exact h2, by simp, fun m hm hle => ?_⟩
        obtain ⟨l1, l2⟩ := lowI_le bs b
        have me := lowI_mem bs b
        have : m = lowI b bs := by
          have a1 := hle _ me
          rcases List.mem_cons.mp hm with rfl | z
          · omega
          · have := l2 m z; omega
        rw [this]
        exact q.same r (.int _)
      · cases e
    · cases e
  · cases e
end
section
variable {X : Cx} {S : SI} {W : WX} {p pos : Pos} {e : Expr} {es : List Expr} {mr : AM}
theorem pe_minL' (hc : X.calm = true) (hg : Gl X "min") (hm : X.mg "min" = none) (ha : PA X (e :: es) (TAm X S W mr)) (he : starEach (e :: es) X.env = (false, eval e X.env) :: starEach es X.env := by rfl) (hpl : (backTo pos (starEach es X.env)).any (·.1) = false := by rfl) :
    PE X (.Call (.Name "min" p) (e :: es) [] pos) (TEm X S W <| eAs gMinL mr) := pe_As (fun t h => pe_callB (cr_min hc) hg hm (by decide +kernel) h (by decide) (by decide) he hpl) (fun _ _ _ => minL_r) ha
end
@[simp] theorem gMax3_run {i j k : Int} {μ : Mem} : gMax3 [.int i, .int j, .int k] μ = some (.int (if (if i < j then j else i) < k then k else if i < j then j else i)) := nr rfl
end Kw
set_option Elab.async false
set_option linter.all false
set_option maxRecDepth 100000
set_option maxHeartbeats 2000000
namespace Kw
open PySem PySem.Spec PyProof.Rows L2
/-- lcL, where a turn's exception is passed on -/
def lcX (g : GM) (mt : TM) (me : EM) (δ : Sv) : List D → Mem → Out (List D)
  | [], μ => .ok [] μ
  | d :: ds, μ => match g d δ μ with
    | .nx δ1 μ1 => match mt δ1 μ1 with
      | .ok true μ2 => match me δ1 μ2 with
        | .ok y μ3 => match lcX g mt me δ ds μ3 with
          | .ok ys μ4 => .ok (y :: ys) μ4
          | .exc x μ4 => .exc x μ4
          | .stuck => .stuck
        | .exc x μ3 => .exc x μ3
        | .stuck => .stuck
      | .ok false μ2 => lcX g mt me δ ds μ2
      | .exc x μ2 => .exc x μ2
      | .stuck => .stuck
    | _ => .stuck
def eLcX (mi : IM) (g : GM) (mt : TM) (me : EM) (vs : List Nat) : EM := fun δ μ => (mi δ μ).bind fun items μ1 => if items.length ≤ sizeLine then (lcX g mt me (wipeD δ vs) items μ1).bind fun ys μ2 => .ok (.lst ys) μ2 else .stuck
@[simp] theorem eLcX_run {mi : IM} {g : GM} {mt : TM} {me : EM} {vs : List Nat} {δ : Sv} {μ : Mem} : eLcX mi g mt me vs δ μ = (mi δ μ).bind fun items μ1 => if items.length ≤ sizeLine then (lcX g mt me (wipeD δ vs) items μ1).bind fun ys μ2 => .ok (.lst ys) μ2 else .stuck := nr rfl
end Kw
set_option Elab.async false
set_option linter.all false
set_option maxRecDepth 100000
set_option maxHeartbeats 2000000
namespace Kw
open PySem PySem.Spec PyProof.Rows L2
def mergeKD (a b : List (D × D)) : List (D × D) := b.foldl (fun acc p => match keyK p.1 with
  | some k => putKD acc p.1 k p.2
  | none => acc) a
section
variable {K : PySem.W.Frag} {mg : Str → Option Value} {T : List (Addr × Str)} {w : Wd} {μ : Mem} {H : Hp} {Q : VK} {x y : V}
theorem mergeKD_rel : ∀ {b a : List (D × D)} {ms ks : List (Key × V)}, RelKV K mg w b ms → RelKV K mg w a ks → RelKV K mg w (mergeKD a b) (mergeK ks ms)
  | [], a, ms, ks, h, h' => by rw [h.unnil]; exact h'
  | p :: b, a, ms, ks, h, h' => by
    obtain ⟨q, ms', rfl, h1, h2, h3⟩ := h.uncons
    have e : mergeKD a (p :: b) = mergeKD (putKD a p.1 q.1 p.2) b := by
      show (match keyK p.1 with
        | some k => putKD a p.1 k p.2
        | none => a) |> fun z => mergeKD z b = _
      rw [h1, keyK_keyD]
    rw [e]
    show RelKV K mg w (mergeKD (putKD a p.1 q.1 p.2) b) (mergeK (putK ks q.1 q.2) ms')
    exact mergeKD_rel h3 (putKD_rel h1 h2 h')
theorem RelKV.dct {kvs : List (D × D)} {gs : List (Key × V)} {a : Addr} (h : RelKV K mg w kvs gs) (e : Rd w.φ a (.dK gs)) : RelD K mg w (.dct kvs) (.ref a) := by
  have z : kvs = (kvs.map (·.1)).zip (kvs.map (·.2)) := by
    clear h
    induction kvs with
    | nil => rfl
    | cons p r ih => rw [List.map_cons, List.map_cons, List.zip_cons_cons, ← ih]
  rw [z]
  exact .dctK e h.keys h.vals
theorem Then1.dct {kvs : List (D × D)} {gs : List (Key × V)} (q : Then1 K mg T w μ Q (.dct kvs)) (r : RelM K mg T w μ H) (h : RelKV K mg w kvs gs) : ∀ p, H p = none → Q (.ref p) (upd H p (.dK gs)) := fun p hp =>
  q (w.lay p (.dK gs)) _ _ (r.lay_le hp _) (r.lay hp (fun _ => nofun)) ((h.mono (r.lay_le hp _)).dct (.inl Wd.lay_at))
/-- what was being made is laid for good -/
theorem laidX {w1 w2 : Wd} {p : Addr} {o : HO} (f1 : w1.φ p = none) (fg : w1.gr p = none) (lw : w1.Lw w2) (hgr : w2.gr = upd w1.gr p o) (rm : RelM K mg T w2 μ H) (ho : ∀ ps, o ≠ .tbl ps) : w1.Le (w2.done p o w1.gr) ∧ w2.Lw (w2.done p o w1.gr) ∧ RelM K mg T (w2.done p o w1.gr) μ H := by
  have hgD : w2.gr p = some o := by rw [hgr, upd_same]
  refine ⟨⟨lw.n, lw.ρ, fun a u ha => ?_, lw.fr, rfl, lw.lk⟩, ⟨Nat.le_refl _, fun _ _ => rfl, fun a u ha => ?_, rfl, rfl⟩, rm.done (g := w1.gr) hgD (fun a ha => by rw [hgr, upd_ne ha]) fg ho⟩
  · have : a ≠ p := fun z => by rw [z, f1] at ha; cases ha
    show upd w2.φ p _ a = _
    rw [upd_ne this]
    exact lw.φ a u ha
  · have : a ≠ p := fun z => by
      have := (rm.dg p _ hgD).1
      rw [← z, ha] at this; cases this
    show upd w2.φ p _ a = _
    rw [upd_ne this]
    exact ha
end
/-- {k: v} -/
def eDisp1 (mk mv : EM) : EM := fun δ μ => (mk δ μ).bind fun k μ1 => (mv δ μ1).bind fun v μ2 => if (keyK k).isSome = true then .ok (.dct [(k, v)]) μ2 else .stuck
/-- {}, never changed -/
def eDct0 : EM := fun _ μ => .ok (.dct []) μ
section
variable {X : Cx} {S : SI} {W : WX} {a b k v : Expr} {ma mb mk mv : EM} {pos : Pos}
theorem keyD_of {d : D} {key : Key} (h : keyK d = some key) : d = keyD key := by
  cases d with
  | int i => cases h; rfl
  | str x => cases h; rfl
  | _ => cases h
end
section
variable {δ : Sv} {μ : Mem}
@[simp] theorem eDisp1_run {mk mv : EM} : eDisp1 mk mv δ μ = (mk δ μ).bind fun k μ1 => (mv δ μ1).bind fun v μ2 => if (keyK k).isSome = true then .ok (.dct [(k, v)]) μ2 else .stuck := nr rfl
@[simp] theorem eDct0_run : eDct0 δ μ = .ok (.dct []) μ := nr rfl
end
end Kw
set_option Elab.async false
set_option linter.all false
set_option maxRecDepth 100000
set_option maxHeartbeats 2000000
namespace Kw
open PySem PySem.Spec PyProof.Rows L2
open LamX (Tabs TabS TabB ExtN CodeO)
/-- lambda a, ..: e, made -/
def eFn (i : Nat) (L : Lm) : EM := fun _ μ => .ok (.fn i L) μ
@[simp] theorem eFn_run {i : Nat} {L : Lm} {δ : Sv} {μ : Mem} : eFn i L δ μ = .ok (.fn i L) μ := nr rfl
/-- the lambda L, called with n values, does what m says -/
def LamD (P : Program) (w : World) (K : PySem.W.Frag) (mg : Str → Option Value) (base : Heap) (T : List (Addr × Str)) (k : Nat) (L : Lm) (n : Nat) (m : FM) : Prop :=
  ∀ (f c' : Addr) (A : Around) (outer : List Env) (s : Shared) (H : Hp) (us : List Value) (vs : List V) (Q : VK) (E : XK), Room k A → A.guards = some [] → Env0 P w K mg base A outer s H → H f = some (LamO f c' L) → H c' = some (CodeO c' L.q) → Vals vs us → spM K mg T n m vs H Q E →
    codeAny (model P w) A (.call (.ref f) ⟨us, []⟩) (CR (L2.CX P w) outer P w H s Q E) s
section
variable {P : Program} {w : World} {K : PySem.W.Frag} {mg : Str → Option Value} {base : Heap} {T : List (Addr × Str)}
theorem LamD.mono {j k n : Nat} {L : Lm} {m : FM} (h : LamD P w K mg base T j L n m) (hk : j ≤ k) : LamD P w K mg base T k L n m := fun f c' A outer s H us vs Q E hr => h f c' A outer s H us vs Q E (hr.mono hk)
end
/-- a table of lambdas, each does so -/
def TblL (P : Program) (w : World) (K : PySem.W.Frag) (mg : Str → Option Value) (base : Heap) (T : List (Addr × Str)) (k : Nat) (tbl : List (Lm × Nat × FM)) : Prop := ∀ t ∈ tbl, LamD P w K mg base T k t.1 t.2.1 t.2.2
theorem TblL.nil {P : Program} {w : World} {K : PySem.W.Frag} {mg : Str → Option Value} {base : Heap} {T : List (Addr × Str)} {k : Nat} : TblL P w K mg base T k [] := fun _ h => absurd h List.not_mem_nil
theorem TblL.cons {P : Program} {w : World} {K : PySem.W.Frag} {mg : Str → Option Value} {base : Heap} {T : List (Addr × Str)} {j k n : Nat} {L : Lm} {m : FM} {tbl : List (Lm × Nat × FM)} (C : LamD P w K mg base T j L n m) (hj : j ≤ k) (h : TblL P w K mg base T k tbl) : TblL P w K mg base T k ((L, n, m) :: tbl) := fun t ht => by
  rcases List.mem_cons.mp ht with rfl | q
  · exact C.mono hj
  · exact h t q
end Kw
set_option Elab.async false
set_option linter.all false
set_option maxRecDepth 100000
set_option maxHeartbeats 2000000
namespace Kw
open PySem PySem.Spec PyProof.Rows L2
section
variable {X : Cx} {S : SI} {W : WX} {e f o : Expr} {es : List Expr} {mo ma mb : EM} {mr : AM} {apos pos : Pos}
/-- d.get(k), d.get(k, v) -/
def eGet1 (mo ma : EM) : EM := fun δ μ => (mo δ μ).bind fun x μ1 => if (dctOf μ1 x).isSome = true then (ma δ μ1).bind fun y μ2 => match dctOf μ2 x, keyK y with
  | some kvs, some k => .ok ((valD kvs k).getD .non) μ2
  | _, _ => .stuck
  else .stuck
def eGet2 (mo ma mb : EM) : EM := fun δ μ => (mo δ μ).bind fun x μ1 => if (dctOf μ1 x).isSome = true then (ma δ μ1).bind fun y μ2 => (mb δ μ2).bind fun z μ3 => match dctOf μ3 x, keyK y with
  | some kvs, some k => .ok ((valD kvs k).getD z) μ3
  | _, _ => .stuck
  else .stuck
theorem isD_of {w : Wd} {μ : Mem} {H : Hp} {d : D} {v : V} (r : RelM X.K X.mg S.T w μ H) (rd : RelD X.K X.mg w d v) (h : (dctOf μ d).isSome = true) : ∃ a, v = .ref a ∧ IsD H a := by
  obtain ⟨kvs, hk⟩ := Option.isSome_iff_exists.mp h
  obtain ⟨a, gs, rfl, hr, _⟩ := dctOf_rel r rd hk
  exact ⟨a, rfl, .inl ⟨gs, hr⟩⟩
theorem pe_get1 (hu : X.A.units + 1 < cLine) (ho : PE X o (TEm X S W mo)) (ha : PE X e (TEm X S W ma)) (m : M1 X o "get" apos e pos := by exact ⟨rfl, rfl, rfl, rfl⟩) : PE X (.Call (.Attribute o "get" apos) [e] [] pos) (TEm X S W <| eGet1 mo ma) :=
  PEi (pe_dget1 hu ho ha m) fun σ H Q ⟨w, δ, μ, h⟩ => ⟨w, δ, μ, (At.bind h).mono fun x H1 ⟨w1, μ1, d, le, rd, h1⟩ => by
    split at h1
    · next hs =>
      obtain ⟨a, rfl, hd⟩ := isD_of h1.2.1 rd hs
      refine ⟨a, rfl, hd, w1, δ, μ1, (At.bind h1).mono fun y H2 ⟨w2, μ2, f, le2, rf, h2⟩ => ?_⟩
      split at h2
      · next kvs k h3 h4 =>
        obtain ⟨a', ea, g1, g2⟩ := dget_rel h2.2.1 (rd.mono le2) rf h3 h4
        cases ea
        cases hv : valD kvs k with
        | none => rw [hv] at h2; exact ⟨none, g2 hv, h2.2.2 w2 _ _ (.refl _) h2.2.1 .non⟩
        | some z =>
          rw [hv] at h2
          obtain ⟨v, g, rv⟩ := g1 z hv
          exact ⟨some v, g, h2.2.2 w2 _ _ (.refl _) h2.2.1 rv⟩
      · exact h2.2.2.elim
    · exact h1.2.2.elim⟩
end
@[simp] theorem eGet1_run {mo ma : EM} {δ : Sv} {μ : Mem} : eGet1 mo ma δ μ = (mo δ μ).bind fun x μ1 => if (dctOf μ1 x).isSome = true then (ma δ μ1).bind fun y μ2 => match dctOf μ2 x, keyK y with
  | some kvs, some k => .ok ((valD kvs k).getD .non) μ2
  | _, _ => .stuck
  else .stuck := nr rfl
@[simp] theorem eGet2_run {mo ma mb : EM} {δ : Sv} {μ : Mem} : eGet2 mo ma mb δ μ = (mo δ μ).bind fun x μ1 => if (dctOf μ1 x).isSome = true then (ma δ μ1).bind fun y μ2 => (mb δ μ2).bind fun z μ3 => match dctOf μ3 x, keyK y with
  | some kvs, some k => .ok ((valD kvs k).getD z) μ3
  | _, _ => .stuck
  else .stuck := nr rfl
end Kw
set_option Elab.async false
set_option linter.all false
set_option maxRecDepth 100000
set_option maxHeartbeats 2000000
namespace Kw
open PySem PySem.Spec PyProof.Rows L2 LamX
end Kw
set_option Elab.async false
set_option linter.all false
set_option maxRecDepth 100000
set_option maxHeartbeats 2000000
namespace Kw
open PySem PySem.Spec PyProof.Rows L2 PySem.Calls PySem.W
def tup1 : PyData → Bool
  | .tuple (_ :: _) => true
  | _ => false
def noTup : PyData → Bool
  | .none => false
  | .tuple _ => false
  | _ => true
def srtOk (ps : List PyData) : Bool := (ps.all fun d => ps.all fun e => alike d e) && (ps.all tup1 || ps.all noTup) && ps.all fun d => decide (d.depth ≤ 40)
theorem srtOk_alike {ps : List PyData} (h : srtOk ps = true) : AllAlike ps := fun d hd e he => by
  unfold srtOk at h
  rw [Bool.and_eq_true, Bool.and_eq_true] at h
  exact List.all_eq_true.mp (List.all_eq_true.mp h.1.1 d hd) e he
theorem srtOk_depth {ps : List PyData} (h : srtOk ps = true) : ∀ d ∈ ps, d.depth ≤ 40 := fun d hd => by
  unfold srtOk at h
  rw [Bool.and_eq_true] at h
  exact of_decide_eq_true (List.all_eq_true.mp h.2 d hd)
theorem vals_each : ∀ {bs : List (V × PyData)} {us : List Value}, Vals (bs.map Prod.fst) us → EachIs (fun u b => RelV b.1 u) us bs
  | [], _, r => by cases r; exact .nil
  | b :: bs, _, r => by
    cases r with
    | cons h t => exact .cons h (vals_each t)
end Kw
set_option Elab.async false
set_option linter.all false
set_option maxRecDepth 100000
set_option maxHeartbeats 2000000
namespace Kw
open PySem PySem.Spec PyProof.Rows L2 PySem.Calls PySem.W
open LamX (CodeO)
end Kw
set_option Elab.async false
set_option linter.all false
set_option maxRecDepth 100000
set_option maxHeartbeats 2000000
namespace Kw
open PySem PySem.Spec PyProof.Rows L2 PySem.Calls PySem.W
open LamX (Tabs TabS TabB ExtN CodeO)
end Kw
set_option Elab.async false
set_option linter.all false
set_option maxRecDepth 100000
set_option maxHeartbeats 2000000
namespace Kw
open PySem PySem.Spec PyProof.Rows L2 PySem.Calls RT
end Kw
set_option Elab.async false
set_option linter.all false
set_option maxRecDepth 100000
set_option maxHeartbeats 2000000
namespace Kw
open PySem PySem.Spec PyProof.Rows L2
end Kw
set_option Elab.async false
set_option linter.all false
set_option maxRecDepth 100000
namespace Kw
open PySem PySem.Spec PyProof.Rows L2
section
variable {α : Type} {e : α → D} {G : List (Int × α)} {k : Int} {v : α} {μ : Mem} {δ : Sv}
def dE (e : α → D) (G : List (Int × α)) : List (D × D) := G.map fun p => (D.int p.1, e p.2)
theorem dE_nil : dE e [] = [] := rfl
theorem dE_cons {p : Int × α} {G : List (Int × α)} : dE e (p :: G) = (D.int p.1, e p.2) :: dE e G := rfl
theorem dE_app {G H : List (Int × α)} : dE e (G ++ H) = dE e G ++ dE e H := List.map_append
theorem dE_len {G : List (Int × α)} : (dE e G).length = G.length := List.length_map _
theorem keyK_i : keyK (.int k) = some (.inl k) := rfl
theorem keyK_eq {j : Int} : (decide (keyK (.int j) = some (.inl k))) = (k == j) := by
  rw [keyK_i]
  by_cases h : j = k
  · subst h; simp
  · have : (k == j) = false := by simpa using fun z => h z.symm
    rw [this]; simp [h]
theorem valD_dE : ∀ G : List (Int × α), valD (dE e G) (.inl k) = (G.lookup k).map e
  | [] => rfl
  | (j, v) :: G => by
    have ih := valD_dE G
    unfold valD at ih ⊢
    rw [dE_cons, List.find?_cons, List.lookup_cons]
    simp only [keyK_eq]
    cases hk : k == j with
    | true => rfl
    | false => exact ih
theorem any_dE : ∀ G : List (Int × α), ((dE e G).any fun p => decide (keyK p.1 = some (.inl k))) = (G.lookup k).isSome
  | [] => rfl
  | (j, v) :: G => by
    have ih := any_dE G
    rw [dE_cons, List.any_cons, ih, List.lookup_cons, keyK_eq]
    cases hk : k == j <;> simp
theorem put_new_dE (h : G.lookup k = none) : putKD (dE e G) (.int k) (.inl k) (e v) = dE e (G ++ [(k, v)]) := by
  unfold putKD
  rw [any_dE, h, dE_app]; rfl
theorem keys_dE (G : List (Int × α)) : (dE e G).map (·.1) = (G.map (·.1)).map D.int := by simp [dE]
theorem lookup_mem : ∀ {G : List (Int × α)}, (k, v) ∈ G → (G.map (·.1)).Nodup → G.lookup k = some v
  | (j, u) :: G, h, hn => by
    rw [List.lookup_cons]
    rw [List.map_cons, List.nodup_cons] at hn
    rcases List.mem_cons.mp h with z | z
    · cases z; simp
    · have : (k == j) = false := by
        simp only [beq_eq_false_iff_ne]
        rintro rfl
        exact hn.1 (List.mem_map.mpr ⟨(k, v), z, rfl⟩)
      rw [this]; exact lookup_mem z hn.2
theorem mem_lookup : ∀ {G : List (Int × α)}, G.lookup k = some v → (k, v) ∈ G
  | (j, u) :: G, h => by
    rw [List.lookup_cons] at h
    cases hk : k == j with
    | true => rw [hk] at h; cases h; have := beq_iff_eq.mp hk; subst this; exact .head _
    | false => rw [hk] at h; exact .tail _ (mem_lookup h)
theorem lookup_none : ∀ {G : List (Int × α)}, G.lookup k = none ↔ k ∉ G.map (·.1)
  | [] => by simp
  | (j, u) :: G => by
    rw [List.lookup_cons, List.map_cons, List.mem_cons, not_or]
    cases hk : k == j with
    | true => have := beq_iff_eq.mp hk; simp [this]
    | false =>
      have : k ≠ j := by simpa using hk
      rw [lookup_none (G := G)]; simp [this]
theorem lookup_some {G : List (Int × α)} (h : k ∈ G.map (·.1)) : ∃ v, G.lookup k = some v := by
  cases e : G.lookup k with
  | none => exact absurd h (lookup_none.mp e)
  | some v => exact ⟨v, rfl⟩
theorem lookup_iff {G : List (Int × α)} : (G.lookup k).isSome = decide (k ∈ G.map (·.1)) := by
  cases e : G.lookup k with
  | none => simpa using lookup_none.mp e
  | some v => simpa using ⟨v, mem_lookup e⟩
theorem lookup_app {G H : List (Int × α)} : (G ++ H).lookup k = (G.lookup k).or (H.lookup k) := by
  induction G with
  | nil => rfl
  | cons p G ih =>
    obtain ⟨j, u⟩ := p
    rw [List.cons_append, List.lookup_cons, List.lookup_cons]
    cases k == j with
    | true => rfl
    | false => exact ih
theorem ixD_run {x : D} (h : dctOf μ x = some (dE e G)) (hk : G.lookup k = some v) : gIxD x (.int k) μ = some (e v) := by
  unfold gIxD
  simp only [h, keyK_i, valD_dE, hk, Option.map_some]
theorem inD_run {x : D} (h : dctOf μ x = some (dE e G)) : gInD (.int k) x μ = some (.bl (decide (k ∈ G.map (·.1)))) := by
  unfold gInD
  simp only [h, keyK_i, valD_dE, Option.isSome_map, lookup_iff]
theorem ninD_run {x : D} (h : dctOf μ x = some (dE e G)) : gNinD (.int k) x μ = some (.bl !(decide (k ∈ G.map (·.1)))) := by
  unfold gNinD
  simp only [h, keyK_i, valD_dE, Option.isSome_map, lookup_iff]
theorem dctOf_loc {l : Nat} {kvs : List (D × D)} (h : μ[l]? = some (.dct kvs)) : dctOf μ (.loc l) = some kvs := by simp only [dctOf, h]
theorem setD_new {l : Nat} (h : μ[l]? = some (.dct (dE e G))) (hk : G.lookup k = none) (hs : G.length ≤ 1000000) : gSetD (.loc l) (.int k) (e v) μ = some (μ.set l (.dct (dE e (G ++ [(k, v)])))) := by
  have hz : (dE e G).length < sizeLine := by rw [dE_len]; show _ < 2 ^ 24; omega
  simp only [gSetD, h, keyK_i]
  rw [if_pos hz, put_new_dE hk]
theorem listK_loc {l : Nat} (h : μ[l]? = some (.dct (dE e G))) : gListK [.loc l] μ = some (oL (G.map (·.1))) := by
  have : keysOf μ (.loc l) = some ((G.map (·.1)).map D.int) := by
    unfold keysOf
    rw [show seqOf μ (.loc l) = none by simp [seqOf, lstOf, tupOf, h]]
    rw [dctOf_loc h]
    simp only [keys_dE]
  simp only [gListK, this]
theorem srt_lst {xs : List Int} : gSrt [oL xs] μ = some (oL (srtI xs)) := by
  simp only [gSrt, lstOf, intsOf_map]
theorem srtSet_lst {xs : List Int} (h1 : xs.length < 4000) (h2 : (srtU xs).length < 64) : gSrtSet [oL xs] μ = some (oL (srtU xs)) := by
  simp only [gSrtSet, lstOf, intsOf_map]
  rw [if_pos ⟨by show _ < 4096; omega, h2⟩]
theorem pop_last {l : Nat} {xs : List D} {x : D} (h : μ[l]? = some (.lst (xs ++ [x]))) : gPop (.loc l) [] μ = some (x, μ.set l (.lst xs)) := by
  have e : (xs ++ [x])[(xs ++ [x]).length - 1]? = some x := by simp
  simp only [gPop, h, e, List.dropLast_concat]
theorem mem_srtI {x : Int} {xs : List Int} : x ∈ srtI xs ↔ x ∈ xs := (srtI_perm xs).mem_iff
theorem len_srtI {xs : List Int} : (srtI xs).length = xs.length := (srtI_perm xs).length_eq
theorem srtU_nodup (xs : List Int) : (srtU xs).Nodup := lt_nodup (srtU_lt xs)
theorem sub_len : ∀ {l m : List Int}, l.Nodup → (∀ x ∈ l, x ∈ m) → l.length ≤ m.length
  | [], _, _, _ => Nat.zero_le _
  | a :: l, m, h, s => by
    rw [List.nodup_cons] at h
    have ha : a ∈ m := s a (.head _)
    have := sub_len (m := m.erase a) h.2 fun x hx => (List.mem_erase_of_ne fun (z : x = a) => h.1 (by rw [← z]; exact hx)).mpr (s x (.tail _ hx))
    rw [List.length_erase_of_mem ha] at this
    have hp : 0 < m.length := List.length_pos_of_mem ha
    rw [List.length_cons]; omega
theorem srtU_sub {xs ys : List Int} (h : ∀ x ∈ xs, x ∈ ys) : (srtU xs).length ≤ ys.length := sub_len (srtU_nodup xs) fun x hx => h x ((mem_srtU x xs).mp hx)
end
section
variable {α : Type} {e : α → D} {G : List (Int × α)} {μ : Mem} {δ : Sv}
@[simp] theorem eNewD_run : eNewD δ μ = .ok (.loc μ.length) (μ ++ [.dct []]) := nr rfl
@[simp] theorem gSubMD_run {mo mi : EM} {d : D} : gSubMD mo mi d δ μ = (mo δ μ).bindS δ fun o μ1 => (mi δ μ1).bindS δ fun i μ2 => match gSetD o i d μ2 with
  | some μ3 => .nx δ μ3
  | none => .stuck := nr rfl
@[simp] theorem sDelD_run {mo mi : EM} : sDelD mo mi δ μ = (mo δ μ).bindS δ fun o μ1 => (mi δ μ1).bindS δ fun i μ2 => match gDelD o i μ2 with
  | some μ3 => .nx δ μ3
  | none => .stuck := nr rfl
@[simp] theorem eAcc_run {A : Type} {mi : IM} {g : GM} {mt : TM} {ms : AccM A} {vs : List Nat} {a0 : A} {fo : A → Mem → Out D} : eAcc mi g mt ms vs a0 fo δ μ = (mi δ μ).bind fun items μ1 => match accL g mt ms (wipeD δ vs) items a0 μ1 with
  | .ok ys μ2 => fo ys μ2
  | _ => .stuck := nr rfl
/-- a dict lent -/
theorem frz_dct {n l : Nat} (h : μ[l]? = some (.dct (dE e G))) (he : ∀ f, ∀ v, frzW f (e v) = some (e v)) : frzL μ (n + 1) l = some (.brd (dE e G)) := by
  have : frzWk (frzL μ n) (dE e G) = some (dE e G) := by
    clear h
    induction G with
    | nil => rfl
    | cons p G ih => simp only [dE_cons, frzWk, he, ih]
  simp only [frzL, h, this]
theorem frzWs_ints (f : Nat → Option D) : ∀ xs : List Int, frzWs f (xs.map D.int) = some (xs.map D.int)
  | [] => rfl
  | x :: xs => by rw [List.map_cons, frzWs, frzWs_ints f xs]; rfl
theorem frz_oT (f : Nat → Option D) (xs : List Int) : frzW f (oT xs) = some (oT xs) := by rw [frzW, frzWs_ints]
theorem frz_oL (f : Nat → Option D) (xs : List Int) : frzW f (oL xs) = some (oL xs) := by rw [frzW, frzWs_ints]
theorem pyW_oL (f : Nat → Option PyData) (a : List Int) : pyW f (oL a) = some (.list (a.map .int)) := by rw [pyW, pyWs_ints]
theorem shp_intsL (a : List Int) : SeqAt.shaped (.list (a.map .int)) = true := by
  unfold SeqAt.shaped
  rw [PyData.canLay0, can_ints, PyData.depth, dep_ints]; rfl
theorem eqD_oL (a b : List Int) : eqD (oL a) (oL b) μ = some (a == b) := by
  unfold eqD pyOf
  rw [pyW_oL, pyW_oL]
  simp only [shp_intsL, Bool.and_self, if_true]
  rw [PyData.eqv, eqvAll_ints]
theorem gEq_oL (a b : List Int) : gEq (oL a) (oL b) μ = some (.bl (a == b)) := by unfold gEq; rw [eqD_oL]
theorem gNe_oL (a b : List Int) : gNe (oL a) (oL b) μ = some (.bl !(a == b)) := by unfold gNe; rw [eqD_oL]
theorem eqD_loc {l : Nat} {a b : List Int} (h : μ[l]? = some (.lst (a.map D.int))) : eqD (.loc l) (oL b) μ = some (a == b) := by
  have e : pyOf μ (.loc l) = some (.list (a.map .int)) := by
    show pyL μ 4 l = _
    simp only [pyL, h, pyWs_ints]
  have e2 : pyOf μ (oL b) = some (.list (b.map .int)) := pyW_oL _ b
  unfold eqD
  rw [e, e2]
  simp only [shp_intsL, Bool.and_self, if_true]
  rw [PyData.eqv, eqvAll_ints]
theorem gNe_loc {l : Nat} {a b : List Int} (h : μ[l]? = some (.lst (a.map D.int))) : gNe (.loc l) (oL b) μ = some (.bl !(a == b)) := by unfold gNe; rw [eqD_loc h]
theorem callP_lentX {m : FM} {ds es : List D} {μ μ' : Mem} {x : Xn} (hd : locBs false 0 ds = false) (hf : frzWs (frzL μ 4) ds = some es) (h : m es [] = .exc x μ') (hr : locBs true 0 (x.fs.map (·.2)) = true) : callP m ds μ = .exc x μ := by
  unfold callP
  rw [if_neg (by rw [hd]; decide), hf]
  simp only
  rw [h]
  exact if_pos hr
end
end Kw
set_option Elab.async false
set_option linter.all false
set_option maxRecDepth 100000
namespace Kw
open PySem PySem.Spec PyProof.Rows L2 PySem.W
/-- e a is a datum that reads as p a; equal just if alike -/
structure En {α : Type} [DecidableEq α] (n : Nat) (e : α → D) (p : α → PyData) : Prop where
  py : ∀ f a, pyW f (e a) = some (p a)
  can : ∀ a, (p a).canLay0 = true
  dep : ∀ a, (p a).depth ≤ n
  eqv : ∀ a b, PyData.eqv (p a) (p b) = decide (a = b)
theorem beq_dec {α : Type} [DecidableEq α] (a b : α) : (a == b) = decide (a = b) := by
  by_cases h : a = b
  · rw [h]; simp
  · rw [decide_eq_false h]; simp [h]
theorem En.int : En 0 D.int PyData.int := ⟨fun _ _ => rfl, fun _ => rfl, fun _ => Nat.le_refl _, fun a b => by rw [PyData.eqv]; exact beq_dec a b⟩
theorem En.nat : En 0 (fun n : Nat => D.int (n : Int)) (fun n : Nat => PyData.int (n : Int)) := ⟨fun _ _ => rfl, fun _ => rfl, fun _ => Nat.le_refl _, fun a b => by
  rw [PyData.eqv, beq_dec]
  exact decide_eq_decide.mpr (by omega)⟩
section
variable {α β γ : Type} [DecidableEq α] [DecidableEq β] [DecidableEq γ] {n m k : Nat} {e : α → D} {p : α → PyData} {e' : β → D} {p' : β → PyData} {e'' : γ → D} {p'' : γ → PyData}
theorem En.pys (E : En n e p) (f : Nat → Option PyData) : ∀ xs : List α, pyWs f (xs.map e) = some (xs.map p)
  | [] => rfl
  | x :: xs => by rw [List.map_cons, pyWs, E.py, E.pys f xs]; rfl
theorem En.cans (E : En n e p) : ∀ xs : List α, PyData.canLayAll0 (xs.map p) = true
  | [] => rfl
  | x :: xs => by rw [List.map_cons, PyData.canLayAll0, E.can, E.cans xs]; rfl
theorem En.deps (E : En n e p) : ∀ xs : List α, PyData.depthAll (xs.map p) ≤ n
  | [] => Nat.zero_le _
  | x :: xs => by rw [List.map_cons, PyData.depthAll]; exact Nat.max_le.mpr ⟨E.dep x, E.deps xs⟩
theorem En.eqvs (E : En n e p) : ∀ xs ys : List α, PyData.eqvAll (xs.map p) (ys.map p) = decide (xs = ys)
  | [], [] => by rw [List.map_nil, PyData.eqvAll]; rfl
  | [], y :: ys => by rw [List.map_nil, List.map_cons, PyData.eqvAll]; rfl
  | x :: xs, [] => by rw [List.map_nil, List.map_cons, PyData.eqvAll]; rfl
  | x :: xs, y :: ys => by
    rw [List.map_cons, List.map_cons, PyData.eqvAll, E.eqv, E.eqvs xs ys, ← Bool.decide_and]
    exact decide_eq_decide.mpr (by rw [List.cons.injEq])
theorem En.tup (E : En n e p) : En (n + 1) (fun xs : List α => D.tup (xs.map e)) (fun xs => .tuple (xs.map p)) := ⟨fun f xs => by
  show pyW f (.tup _) = _
  rw [pyW, E.pys], fun xs => by rw [PyData.canLay0]; exact E.cans xs, fun xs => by rw [PyData.depth]; exact Nat.succ_le_succ (E.deps xs), fun xs ys => by rw [PyData.eqv]; exact E.eqvs xs ys⟩
theorem En.lst (E : En n e p) : En (n + 1) (fun xs : List α => D.lst (xs.map e)) (fun xs => .list (xs.map p)) := ⟨fun f xs => by
  show pyW f (.lst _) = _
  rw [pyW, E.pys], fun xs => by rw [PyData.canLay0]; exact E.cans xs, fun xs => by rw [PyData.depth]; exact Nat.succ_le_succ (E.deps xs), fun xs ys => by rw [PyData.eqv]; exact E.eqvs xs ys⟩
def optD (e : α → D) : Option α → D
  | none => .non
  | some a => e a
def optP (p : α → PyData) : Option α → PyData
  | none => .none
  | some a => p a
theorem En.opt (E : En n e p) (h : ∀ a, PyData.eqv .none (p a) = false ∧ PyData.eqv (p a) .none = false) : En n (optD e) (optP p) := ⟨fun f x => by
  cases x with
  | none => rfl
  | some a => exact E.py f a, fun x => by
  cases x with
  | none => rfl
  | some a => exact E.can a, fun x => by
  cases x with
  | none => exact Nat.zero_le _
  | some a => exact E.dep a, fun x y => by
  cases x with
  | none =>
    cases y with
    | none =>
      show PyData.eqv .none .none = _
      rw [PyData.eqv]; rfl
    | some b => exact (h b).1
  | some a =>
    cases y with
    | none => exact (h a).2
    | some b =>
      show PyData.eqv (p a) (p b) = _
      rw [E.eqv]
      exact decide_eq_decide.mpr (by rw [Option.some.injEq])⟩
theorem En.shp (E : En n e p) (hn : n ≤ 40) (a : α) : SeqAt.shaped (p a) = true := by
  unfold SeqAt.shaped
  rw [E.can, Bool.true_and]
  exact decide_eq_true (by have := E.dep a; omega)
section
variable {μ : Mem}
theorem En.eqD (E : En n e p) (hn : n ≤ 40) (a b : α) : eqD (e a) (e b) μ = some (decide (a = b)) := by
  unfold Kw.eqD pyOf
  rw [E.py, E.py]
  simp only [E.shp hn, Bool.and_self, if_true, E.eqv]
theorem En.gEq (E : En n e p) (hn : n ≤ 40) (a b : α) : gEq (e a) (e b) μ = some (.bl (decide (a = b))) := by
  unfold Kw.gEq
  rw [E.eqD hn]
end
structure Od {α : Type} (p : α → PyData) (lt : α → α → Bool) : Prop where
  al : ∀ a b, alike (p a) (p b) = true
  lt : ∀ a b, dataLt (p a) (p b) = lt a b
theorem Od.int : Od PyData.int (fun a b => decide (a < b)) := ⟨fun a b => by simp only [alike], fun a b => dataLt_int a b⟩
theorem Od.nat : Od (fun n : Nat => PyData.int (n : Int)) (fun a b => decide (a < b)) := ⟨fun a b => by simp only [alike], fun a b => by rw [dataLt_int]; exact decide_eq_decide.mpr (by omega)⟩
/-- the first difference decides, else the shorter one is less -/
def lstLt (lt : α → α → Bool) : List α → List α → Bool
  | [], [] => false
  | [], _ :: _ => true
  | _ :: _, [] => false
  | x :: xs, y :: ys => if x = y then lstLt lt xs ys else lt x y
theorem Od.als {lt : α → α → Bool} (O : Od p lt) : ∀ xs ys : List α, alikeAll (xs.map p) (ys.map p) = true
  | [], _ => by rw [List.map_nil, alikeAll]
  | _ :: _, [] => by rw [List.map_nil, List.map_cons, alikeAll]
  | x :: xs, y :: ys => by
    rw [List.map_cons, List.map_cons, alikeAll, O.al x y, O.als xs ys]
    rfl
theorem Od.lts {lt : α → α → Bool} (E : En n e p) (O : Od p lt) : ∀ xs ys : List α, PyProof.Rows.lexLt itemOrd (keyToksAll (xs.map p)) (keyToksAll (ys.map p)) = lstLt lt xs ys
  | [], [] => lex_irrefl _
  | [], y :: ys => by
    rw [List.map_nil, List.map_cons, toks_all_cons]
    simp only [keyToksAll]
    rw [lex_diff (O := itemOrd) (by simp)]
    rfl
  | x :: xs, [] => by
    rw [List.map_nil, List.map_cons, toks_all_cons]
    simp only [keyToksAll]
    rw [lex_diff (O := itemOrd) (by simp)]
    rfl
  | x :: xs, y :: ys => by
    rw [List.map_cons, List.map_cons, lstLt]
    by_cases h : x = y
    · rw [if_pos h, dataLt_all_yes (O.al x y) (by rw [E.eqv, decide_eq_true_eq]; exact h), Od.lts E O xs ys]
    · rw [if_neg h, dataLt_all_no (O.al x y) (by rw [E.eqv, decide_eq_false_iff_not]; exact h)]
      exact O.lt x y
theorem Od.tup {lt : α → α → Bool} (E : En n e p) (O : Od p lt) : Od (fun xs : List α => .tuple (xs.map p)) (lstLt lt) := ⟨fun xs ys => by simp only [alike]; exact O.als xs ys, fun xs ys => (dataLt_tuple _ _).trans (Od.lts E O xs ys)⟩
theorem Od.lst {lt : α → α → Bool} (E : En n e p) (O : Od p lt) : Od (fun xs : List α => .list (xs.map p)) (lstLt lt) := ⟨fun xs ys => by simp only [alike]; exact O.als xs ys, fun xs ys => (dataLt_list _ _).trans (Od.lts E O xs ys)⟩
end
section
variable {α : Type} {e : α → D} {p : α → PyData} {lt : α → α → Bool}
theorem Od.ok (O : Od p lt) (l : List α) (ht : (∀ a ∈ l, tup1 (p a) = true) ∨ ∀ a ∈ l, noTup (p a) = true) (hd : ∀ a ∈ l, (p a).depth ≤ 40) : srtOk (l.map p) = true := by
  unfold srtOk
  rw [Bool.and_eq_true, Bool.and_eq_true, Bool.or_eq_true]
  refine ⟨⟨List.all_eq_true.mpr fun x hx => List.all_eq_true.mpr fun y hy => ?_, ht.imp (fun h => List.all_eq_true.mpr fun x hx => ?_) fun h => List.all_eq_true.mpr fun x hx => ?_⟩, List.all_eq_true.mpr fun x hx => decide_eq_true ?_⟩
  · obtain ⟨a, _, rfl⟩ := List.mem_map.mp hx
    obtain ⟨b, _, rfl⟩ := List.mem_map.mp hy
    exact O.al a b
  · obtain ⟨a, ha, rfl⟩ := List.mem_map.mp hx
    exact h a ha
  · obtain ⟨a, ha, rfl⟩ := List.mem_map.mp hx
    exact h a ha
  · obtain ⟨a, ha, rfl⟩ := List.mem_map.mp hx
    exact hd a ha
end
end Kw
set_option Elab.async false
set_option linter.all false
set_option maxRecDepth 100000
set_option maxHeartbeats 2000000
namespace Kw
open PySem PySem.Spec PyProof.Rows L2
open LamX (Tabs TabS TabB ExtN CodeO)
def itemsD (kvs : List (D × D)) : List D := kvs.map fun p => .tup [p.1, p.2]
/-- the pairs of a dict that is gone through -/
def iItK (ma : EM) : IM := fun δ μ => (ma δ μ).bind fun x μ1 => match x with
  | .loc l => match μ1[l]? with
    | some (.lkd kvs) => .ok (itemsD kvs) μ1
    | _ => .stuck
  | _ => .stuck
@[simp] theorem iItK_run {ma : EM} {δ : Sv} {μ : Mem} : iItK ma δ μ = (ma δ μ).bind fun x μ1 => match x with
  | .loc l => match μ1[l]? with
    | some (.lkd kvs) => .ok (itemsD kvs) μ1
    | _ => .stuck
  | _ => .stuck := nr rfl
def eCallV (i : Nat) (tbl : List (Str × Nat × FM)) (ma : AM) : EM := fun δ μ => match δ[i]? with
  | some (some (.glb y)) => match tbl.lookup y with
    | some (n, m) => (ma δ μ).bind fun ds μ1 => if ds.length = n then callM m ds μ1 else .stuck
    | none => .stuck
  | _ => .stuck
theorem eCallV_run {i n : Nat} {y : Str} {m : FM} {tbl : List (Str × Nat × FM)} {ma : AM} {δ : Sv} {μ μ1 : Mem} {ds : List D} (h : δ[i]? = some (some (.glb y))) (ht : tbl.lookup y = some (n, m)) (ha : ma δ μ = .ok ds μ1) (hn : ds.length = n) : eCallV i tbl ma δ μ = callM m ds μ1 := by
  unfold eCallV
  rw [h]
  simp only [ht, ha]
  show (if ds.length = n then callM m ds μ1 else .stuck) = _
  rw [if_pos hn]
/-- each entry of the table is a def that does so -/
def TblV (P : Program) (w : World) (K : PySem.W.Frag) (mg : Str → Option Value) (base : Heap) (T : List (Addr × Str)) (k : Nat) (tbl : List (Str × Nat × FM)) : Prop := ∀ y n m, tbl.lookup y = some (n, m) → ∃ st ps, CalD P w K mg base T y st k ps m ∧ ps.length = n
theorem TblV.nil {P : Program} {w : World} {K : PySem.W.Frag} {mg : Str → Option Value} {base : Heap} {T : List (Addr × Str)} {k : Nat} : TblV P w K mg base T k [] := fun y n m h => by cases h
theorem TblV.cons {P : Program} {w : World} {K : PySem.W.Frag} {mg : Str → Option Value} {base : Heap} {T : List (Addr × Str)} {k j n : Nat} {y : Str} {m : FM} {st : Stmt} {ps : List Str} {tbl : List (Str × Nat × FM)} (C : CalD P w K mg base T y st j ps m) (hn : ps.length = n) (hj : j ≤ k) (h : TblV P w K mg base T k tbl) : TblV P w K mg base T k ((y, n, m) :: tbl) := fun z n' m' e => by
  rw [List.lookup_cons] at e
  split at e
  · next q =>
    have : z = y := by simpa using q
    subst this
    cases e
    obtain ⟨f, fd, FP, hm, hb, G⟩ := C.ex
    exact ⟨st, ps, ⟨f, fd, FP, hm, hb, G.mono hj⟩, hn⟩
  · exact h z n' m' e
section
variable {X : Cx} {S : SI} {W : WX} {i k : Nat} {v : Str} {e : Expr} {es : List Expr} {tbl : List (Str × Nat × FM)} {mr : AM} {p pos : Pos}
theorem pe_callV (tb : TblV X.prog X.w X.K X.mg X.base S.T k tbl) (hr : Room k X.A) (hgd : X.A.guards = some []) (hx : ∀ σ, PassesAt (L2.CX X.prog X.w) X σ (WE W σ)) (ha : PA X (e :: es) (TAm X S W mr)) (hi : X.N[i]? = some v) (vis : Vis X.env.scope v)
    (hvd : (v == ("__debug__" : Str)) = false := by decide) (hvc : (v == ("__classdict__" : Str)) = false := by decide)
    (he : starEach (e :: es) X.env = (false, eval e X.env) :: starEach es X.env := by rfl) (hpl : (backTo pos (starEach es X.env)).any (·.1) = false := by rfl) :
    PE X (.Call (.Name v p) (e :: es) [] pos) (TEm X S W (eCallV i tbl mr)) := by
  refine ⟨fun pins s σ H Q I ⟨w, δ, μ, rs, rm, h⟩ => ?_⟩
  unfold eCallV at h
  split at h
  · next y ey =>
    split at h
    · next n m em =>
      obtain ⟨st, ps, C, hn⟩ := tb y n m em
      obtain ⟨f, fd, F, hm, hb, G⟩ := C.ex
      obtain ⟨vv, hvv, rvv⟩ := rs.2 i _ ey
      have evv : vv = .ref f := by
        have rd : RelD X.K X.mg w (.glb y) vv := rvv
        cases rd with
        | glb q => rw [hm] at q; cases q; rfl
      subst evv
      refine wpAny_Call_Name_kw (thn ((pe_var (pos := p) hi vis hvd hvc).run pins s σ H (fun u G1 => u = .ref f ∧ G1 = H) I ⟨.ref f, hvv, rfl, rfl⟩) fun u s1 ⟨u', G1, J, ru, eu, eG⟩ => ?_)
      subst eu
      rw [eG] at J
      obtain rfl : u = Value.ref f := ru
      refine PySem.W.callWith_K (h₀ := X.base) J.ok.mod.kin F.kp ?_ he hpl
      refine thn (ha.run pos pins s1 σ H (fun vs H1 => spM X.K X.mg S.T ps.length m vs H1 Q (WE W σ)) J ?_) fun us s2 ⟨vs, H1, I1, r, q⟩ => ⟨I1.kIn, ?_⟩
      · refine ⟨w, δ, μ, rs, rm, ?_⟩
        cases e2 : mr δ μ with
        | stuck => rw [e2] at h; exact h.elim
        | exc x μ' => rw [e2] at h; exact h
        | ok ds μ' =>
          rw [e2] at h
          have h' : (if ds.length = n then callM m ds μ' else .stuck : Out D).to _ _ := h
          intro w1 vs H1 le1 rm1 rs1
          by_cases hl : ds.length = n
          · rw [if_pos hl] at h'
            refine sp_callM (by rw [← rs1.length, hl, hn]) rm1 rs1 ?_
            exact Out.to_mono h' (fun d μ2 q w2 v2 H2 le2 => q w2 v2 H2 (le1.trans le2)) fun x μ2 q w2 c d H2 le2 => q w2 c d H2 (le1.trans le2)
          · rw [if_neg hl] at h'
            exact h'.elim
      · have hl : (us ++ []).length = ps.length := by rw [List.append_nil, ← r.length]; exact G.len _ _ _ _ q
        have hb' := hb s2 us I1.kIn hl
        rw [List.append_nil] at hb'
        exact call_of (run_G G hr hgd (hx σ) I1 hb' r q)
    · exact h.elim
  · exact h.elim
end
section
variable {X : Cx} {S : SI} {W : WX} {e : Expr} {ma : EM} {pos : Pos}
theorem Vals.take {K : PySem.W.Frag} : ∀ {vs : List V} {us : List Value} (n : Nat), Vals vs us → Vals (vs.take n) (us.take n)
  | _, _, 0, _ => by rw [List.take_zero, List.take_zero]; exact .nil
  | _, _, n + 1, .nil => by rw [List.take_nil, List.take_nil]; exact .nil
  | _, _, n + 1, .cons h t => by rw [List.take_succ_cons, List.take_succ_cons]; exact .cons h (Vals.take (K := K) n t)
end
def eDispN (mk mv : EM) : EM := fun δ μ => (mk δ μ).bind fun k μ1 => (mv δ μ1).bind fun v μ2 => if (keyK k).isSome = true then .ok (.loc μ2.length) (μ2 ++ [.dct [(k, v)]]) else .stuck
section
variable {X : Cx} {S : SI} {W : WX} {k v : Expr} {mk mv : EM} {pos : Pos}
theorem pe_dispN (hk : PE X k (TEm X S W mk)) (hv : PE X v (TEm X S W mv)) : PE X (.Dict [some k] [v] pos) (TEm X S W <| eDispN mk mv) := by
  refine PEi (pe_disp (pps_cons hk hv pps_nil) rfl rfl (by simp) (by simp)) fun σ H Q ⟨w, δ, μ, rs, rm, h⟩ p hp => ?_
  obtain ⟨f1, f2, fg, f3⟩ := rm.free hp
  have lg := w.grow_lw p (.dK [])
  have out : ∀ {w2 : Wd} {x : Xn} {μ2 : Mem} {cls : Value} {dd : Option Addr} {H2 : Hp}, (∀ w' cls dd H', w.Le w' → RelM X.K X.mg S.T w' μ2 H' → RelX X.K X.mg w' x cls dd → W cls dd σ H') → (w.grow p (.dK [])).Le w2 → RelM X.K X.mg S.T w2 μ2 H2 → RelX X.K X.mg w2 x cls dd → W cls dd σ H2 := fun {w2 x μ2 cls dd H2} q le rm2 rx => by
    obtain ⟨l1, l2, l3⟩ := laidX (o := .dK []) f1 fg (lg.trans le.lw) (by rw [le.gr]; rfl) rm2 (by nofun)
    exact q _ cls dd H2 l1 l3 (rx.monoW l2)
  unfold eDispN at h
  refine ⟨w.grow p (.dK []), δ, μ, rs.monoW lg, rm.grow hp _, ?_⟩
  cases ek : mk δ μ with
  | stuck => rw [ek] at h; exact h.elim
  | exc x μ1 =>
    rw [ek] at h
    exact fun w2 cls dd H2 le rm2 rx => out h le rm2 rx
  | ok dk μ1 =>
    rw [ek] at h
    intro w1 v1 H1 le1 rm1 rk
    refine ⟨w1, δ, μ1, (rs.monoW lg).mono le1, rm1, ?_⟩
    cases ev : mv δ μ1 with
    | stuck => simp only [bind_ok, ev] at h; exact h.elim
    | exc x μ2 =>
      simp only [bind_ok, ev] at h
      exact fun w2 cls dd H2 le rm2 rx => out h (le1.trans le) rm2 rx
    | ok dv μ2 =>
      simp only [bind_ok, ev] at h
      intro w2 v2 H2 le2 rm2 rv
      cases hkey : keyK dk with
      | none => rw [hkey] at h; exact h.elim
      | some key =>
        rw [hkey] at h
        simp only [Option.isSome_some, if_true] at h
        have gp : w2.gr = upd w.gr p (.dK []) := by rw [le2.gr, le1.gr]; rfl
        have hg2 : w2.gr p = some (.dK []) := by rw [gp, upd_same]
        have ev1 := keyK_rel rk hkey
        subst ev1
        refine ⟨rm2.gr p _ hg2, [(key, v2)], rfl, by simp, ?_⟩
        have rg := rm2.regrow hg2 rfl (.dK (mergeK [] [(key, v2)]))
        have lw2 := ((lg.trans le1.lw).trans le2.lw).trans (w2.grow_lw p (.dK (mergeK [] [(key, v2)])))
        obtain ⟨d, μ', w3, q, l3, rm3, rd⟩ := fin_dct (X := X) (S := S) w _ p (.dK (mergeK [] [(key, v2)])) [(dk, dv)] μ2 _ _ _ f1 f2 fg lw2 (by
          show upd w2.gr p _ = _
          rw [gp]
          funext z
          by_cases hz : z = p
          · subst hz; rw [upd_same, upd_same]
          · rw [upd_ne hz, upd_ne hz, upd_ne hz]) ⟨[(key, v2)], rfl, ⟨by simp [keyD_of hkey], .cons (RelD.monoW (w2.grow_lw p _) rv) .nil⟩⟩ rg h
        exact q w3 _ _ l3 rm3 rd
@[simp] theorem eDispN_run {mk mv : EM} {δ : Sv} {μ : Mem} : eDispN mk mv δ μ = (mk δ μ).bind fun k μ1 => (mv δ μ1).bind fun v μ2 => if (keyK k).isSome = true then .ok (.loc μ2.length) (μ2 ++ [.dct [(k, v)]]) else .stuck := nr rfl
end
end Kw
set_option Elab.async false
set_option linter.all false
set_option maxRecDepth 100000
set_option maxHeartbeats 2000000
namespace Kw
open PySem PySem.Spec PyProof.Rows L2 PySem.Calls
end Kw
set_option Elab.async false
set_option linter.all false
set_option maxRecDepth 100000
set_option maxHeartbeats 2000000
namespace Kw
open PySem PySem.Spec PyProof.Rows L2 PySem.Calls
end Kw
namespace Kw
open PySem PySem.Spec PyProof.Rows L2 PySem.Calls
/-- list(d.items()) -/
def gItL (x : D) (μ : Mem) : Option D := match dctOf μ x with
  | some kvs => some (.lst (itemsD kvs))
  | none => none
@[simp] theorem gItL_loc {l : Nat} {μ : Mem} {kvs : List (D × D)} (h : μ[l]? = some (.dct kvs)) : gItL (.loc l) μ = some (.lst (itemsD kvs)) := by
  unfold gItL
  have : dctOf μ (.loc l) = some kvs := by simp [dctOf, h]
  rw [this]
end Kw
set_option Elab.async false
set_option linter.all false
set_option maxRecDepth 100000
set_option maxHeartbeats 2000000
namespace Kw
open PySem PySem.Spec PyProof.Rows L2 PySem.Calls
end Kw
namespace Kw
open PySem PySem.Spec PyProof.Rows L2 PySem.Calls
end Kw
set_option Elab.async false
set_option linter.all false
set_option maxRecDepth 100000
namespace Kw
open PySem PySem.Spec PyProof.Rows L2 PySem.Calls
def tDUpd (td ty : TE) : TE := fun σ H Q => td σ H fun x H1 => ∃ a, x = .ref a ∧ IsD H1 a ∧ ty σ H1 fun y H2 => ∃ b kvs more, y = .ref b ∧ a ≠ b ∧ H2 a = some (.dK kvs) ∧ Rd H2 b (.dK more) ∧ kvs.length + more.length ≤ sizeLine ∧ Q .non (upd H2 a (.dK (mergeK kvs more)))
section
variable {X : Cx} {pins : List (Addr × Obj)} {σ : L2.St} {H : Hp} {s : Shared} {a b : Addr} {kvs more : List (Key × V)} {A : Around} {E : Value → Shared → Prop}
theorem d_update {Q : Value → Shared → Prop} (I : Inv X pins σ H s) (e : H a = some (.dK kvs)) (e2 : Rd H b (.dK more)) (hab : a ≠ b) (hz : kvs.length + more.length ≤ sizeLine) (h : ∀ s', Inv X pins σ (upd H a (.dK (mergeK kvs more))) s' → Q .none s') :
    wpAny (model X.prog X.w) A (call (.builtin "dict.update") [.ref a, .ref b]) Q E s := by
  obtain ⟨z, hd, vs, rel, dd⟩ := dk_of I.hok e
  obtain ⟨z2, hd2, ms, rel2, dd2⟩ := dk_rd I.hok e2
  refine call_meetsIn PySem.F.slot_dict_update dd.typeIs PySem.F.entry_dict_update (PySem.F.args_dict_update_2 _ _) (meets_dict_update (mixKind X.prog X.w) a b hab hd2) ⟨vs, ms, dd, dd2, by rw [← rel.length, ← rel2.length]; exact hz, fun h' dd' _ hs => h _ ?_⟩
  have he : ∃ q, h'.get? a = some q := let ⟨q, _, _, hq, _⟩ := dd'; ⟨q, hq⟩
  exact d_write I (by rw [e]; exact True.intro) hs he (dk_new (Nat.le_trans (length_mergeK more kvs) hz) hd (rel2.merge rel) dd')
end
section
variable {X : Cx} {S : SI} {W : WX} {o e : Expr} {apos pos : Pos} {td ty : TE} {mo ma : EM}
theorem pe_dupd (ho : PE X o td) (he : PE X e ty) (m : M1 X o "update" apos e pos) : PE X (.Call (.Attribute o "update" apos) [e] [] pos) (tDUpd td ty) := by
  refine ⟨fun pins s σ H Q I h => ?_⟩
  refine wpAny_Call_method m.base m.few m.line PySem.F.plainAttrs_dict PySem.F.slot_dict_update PySem.F.type_dict_update (thn (ho.run pins s σ H _ I h) fun u s1 ⟨x, H1, I1, rx, a, ex, d, q1⟩ => ?_)
  subst ex
  obtain rfl : u = Value.ref a := rx
  obtain ⟨t1, t2, _⟩ := isD_at I1 d
  refine ⟨t1, t2, ?_⟩
  rw [m.trees]
  refine Calls.callWith_builtin rfl (Calls.evalArgs_plain (Calls.spliced_cons (thn (he.run pins s1 σ H1 _ I1 q1) fun iv s2 ⟨y, H2, I2, ry, b, kvs, more, ey, hab, ea, eb, hz, q2⟩ => Calls.spliced_nil ?_)))
  subst ey
  cases (show iv = Value.ref b from ry)
  exact d_update I2 ea eb hab hz fun s3 I3 => ⟨.non, _, I3, rfl, q2⟩
def eUpd (mo ma : EM) : EM := fun δ μ => (mo δ μ).bind fun x μ1 => if (dctOf μ1 x).isSome = true then (ma δ μ1).bind fun y μ2 => match x, y with
  | .loc l, .loc j => match μ2[l]?, dctOf μ2 (.loc j) with
    | some (.dct kvs), some more => if l ≠ j ∧ kvs.length + more.length ≤ sizeLine then .ok .non (μ2.set l (.dct (mergeKD kvs more))) else .stuck
    | _, _ => .stuck
  | _, _ => .stuck
  else .stuck
theorem pe_upd (ho : PE X o (TEm X S W mo)) (ha : PE X e (TEm X S W ma)) (m : M1 X o "update" apos e pos := by exact ⟨rfl, rfl, rfl, rfl⟩) : PE X (.Call (.Attribute o "update" apos) [e] [] pos) (TEm X S W <| eUpd mo ma) :=
  PEi (pe_dupd ho ha m) fun σ H Q ⟨w, δ, μ, h⟩ => ⟨w, δ, μ, (At.bind h).mono fun x H1 ⟨w1, μ1, d, le, rd, h1⟩ => by
    split at h1
    · next hs =>
      obtain ⟨a, rfl, hd⟩ := isD_of h1.2.1 rd hs
      refine ⟨a, rfl, hd, w1, δ, μ1, (At.bind h1).mono fun y H2 ⟨w2, μ2, f, le2, rf, h2⟩ => ?_⟩
      cases d with
      | loc l =>
        cases f with
        | loc j =>
          simp only at h2
          split at h2
          · next kvs more h3 h4 =>
            split at h2
            · next c =>
              cases rd with
              | loc hl =>
                cases rf with
                | loc hj =>
                  have rm2 := h2.2.1
                  have hρ := le2.ρ l hl
                  obtain ⟨gs, g1, g2⟩ := rm2.dct h3
                  obtain ⟨b', ms, eb, g3, g4⟩ := dctOf_rel rm2 (.loc hj) h4
                  cases eb
                  have rv := mergeKD_rel g4 g2
                  refine ⟨w2.ρ j, gs, ms, rfl, ?_, by rw [← hρ]; exact g1, g3, by rw [← g2.length, ← g4.length]; exact c.2, ?_⟩
                  · rw [← hρ]
                    exact fun q => c.1 (rm2.inj l j (Nat.lt_of_lt_of_le hl le2.n) hj q)
                  · rw [← hρ]
                    exact h2.2.2 w2 _ _ (.refl _) (rm2.write h3 nofun (.dct rv.keys rv.vals)) .non
            · exact h2.2.2.elim
          · exact h2.2.2.elim
        | _ => exact (show False from h2.2.2).elim
      | _ => exact (show False from h2.2.2).elim
    · exact h1.2.2.elim⟩
end
@[simp] theorem eUpd_run {mo ma : EM} {δ : Sv} {μ : Mem} : eUpd mo ma δ μ = (mo δ μ).bind fun x μ1 => if (dctOf μ1 x).isSome = true then (ma δ μ1).bind fun y μ2 => match x, y with
  | .loc l, .loc j => match μ2[l]?, dctOf μ2 (.loc j) with
    | some (.dct kvs), some more => if l ≠ j ∧ kvs.length + more.length ≤ sizeLine then .ok .non (μ2.set l (.dct (mergeKD kvs more))) else .stuck
    | _, _ => .stuck
  | _, _ => .stuck
  else .stuck := nr rfl
end Kw
set_option Elab.async false
set_option linter.all false
set_option maxRecDepth 100000
namespace Kw
open PySem PySem.Spec PyProof.Rows L2 PySem.Calls
/-- the items are pairs of a key and what stands at it -/
def PrsV (K : PySem.W.Frag) (H : Hp) (ts : List V) (ps : List (Key × V)) : Prop := Paired (fun t (p : Key × V) => ∃ b, t = .ref b ∧ SqT K H b [kV p.1, p.2]) ts ps
section
variable {X : Cx} {pins : List (Addr × Obj)} {σ : L2.St} {H : Hp} {s : Shared}
theorem prs_at (I : Inv X pins σ H s) : ∀ {ts : List V} {ps : List (Key × V)} {its : List Value}, PrsV X.K H ts ps → Vals ts its → ∃ (bs : List Addr) (qs : List (Key × Value)), bs.length = ts.length ∧ KV ps qs ∧ its = bs.map Value.ref ∧ ∀ (j : Nat) (b : Addr) (k : Key) (u : Value), bs[j]? = some b → qs[j]? = some (k, u) → ∃ kv : Value, RelV (kV k) kv ∧ PairAt s.heap b kv u
  | [], ps, its, h, r => by
    unfold PrsV at h
    cases h
    cases r
    exact ⟨[], [], rfl, .nil, rfl, fun j b k u hb => by simp at hb⟩
  | t :: ts, ps, its, h, r => by
    unfold PrsV at h
    cases h with
    | @cons _ p _ ps' h1 h2 =>
      obtain ⟨b, rfl, hq⟩ := h1
      cases r with
      | cons r1 r2 =>
        cases r1
        obtain ⟨bs, qs, e1, e2, e3, e4⟩ := prs_at I (ps := ps') h2 r2
        obtain ⟨ys, ry, pl, _⟩ := I.tuple hq
        cases ry with
        | @cons _ kv _ ys' y1 y2 =>
          cases y2 with
          | @cons _ u _ ys'' z1 z2 =>
            cases z2
            refine ⟨b :: bs, (p.1, u) :: qs, by rw [List.length_cons, List.length_cons, e1], .cons ⟨rfl, z1⟩ e2, by rw [e3]; rfl, fun j b' k u' hb hq' => ?_⟩
            cases j with
            | zero =>
              cases hb
              cases hq'
              exact ⟨kv, y1, .inl pl⟩
            | succ j => exact e4 j b' k u' hb hq'
end
def rDP (K : PySem.W.Frag) : List V → Hp → VK → Prop := fun xs H Q => ∃ p ts ps, xs = [.ref p] ∧ SqL K H p ts ∧ PrsV K H ts ps ∧ ∀ l, H l = none → Q (.ref l) (upd H l (.dK (mergeK [] ps)))
theorem call_dictP {X : Cx} (hc : X.calm = true) : L2.CallR X (.type "dict") (rDP X.K) := by
  intro pins s σ H xs us Q I r h
  obtain ⟨p, ts, ps, rfl, hq, hp, q⟩ := h
  obtain ⟨u, rfl, rx⟩ := vals1 r
  cases rx
  obtain ⟨its, r', pl, hz⟩ := I.list hq
  obtain ⟨bs, qs, e1, e2, e3, e4⟩ := prs_at I hp r'
  have lb : bs.length = ts.length := e1
  have lq : qs.length = bs.length := by
    have l1 := Paired.length hp
    have l2 := e2.length
    omega
  obtain ⟨kus, hk1, hk2⟩ : ∃ kus : List (Value × Value), kus.length = bs.length ∧ ∀ (j : Nat) (kv u : Value), kus[j]? = some (kv, u) → ∃ (b : Addr) (k : Key), bs[j]? = some b ∧ qs[j]? = some (k, u) ∧ RelV (kV k) kv ∧ PairAt s.heap b kv u := by
    clear q r' pl hz hp hq e2 e3
    induction bs generalizing qs ts with
    | nil => exact ⟨[], rfl, fun j kv u h => by simp at h⟩
    | cons b bs ih =>
      cases qs with
      | nil => simp at lq
      | cons q0 qs =>
        obtain ⟨k, u⟩ := q0
        obtain ⟨kv, h1, h2⟩ := e4 0 b k u rfl rfl
        cases ts with
        | nil => simp at e1
        | cons t ts =>
          obtain ⟨kus, i1, i2⟩ := ih (ts := ts) (qs := qs) (by simpa using e1) (fun j b' k' u' hb hq => e4 (j + 1) b' k' u' hb hq) (by simpa using e1) (by simpa using lq)
          refine ⟨(kv, u) :: kus, by rw [List.length_cons, List.length_cons, i1], fun j kv' u' hj => ?_⟩
          cases j with
          | zero =>
            cases hj
            exact ⟨b, k, rfl, rfl, h1, h2⟩
          | succ j => exact i2 j kv' u' hj
  have hsz : kus.length ≤ sizeLine := by omega
  have lits : its.toArray.size = kus.length := by rw [e3, List.size_toArray, List.length_map, hk1]
  refine call_dict_pairs (knd := mixKind X.prog X.w) (kvs := qs) (PairArg.list p its.toArray (fun j => bs.getD j 0) kus) (I.ok.hd hc) ⟨by obtain ⟨o, n, h1, h2, h3, h4⟩ := pl; exact ⟨o, n, h1, h2, h3, h4⟩, lits, fun j kv u hj => ?_⟩ ⟨by omega, fun j kv u hj => ?_⟩ hsz fun h' tk dd hk => ?_
  · obtain ⟨b, k, h1, _, _, h4⟩ := hk2 j kv u hj
    have eb : bs.getD j 0 = b := by rw [List.getD_eq_getElem?_getD, h1]; rfl
    show its.toArray[j]? = some (.ref (bs.getD j 0)) ∧ PairAt s.heap (bs.getD j 0) kv u
    rw [eb]
    refine ⟨?_, h4⟩
    rw [e3, List.getElem?_toArray, List.getElem?_map, h1]; rfl
  · obtain ⟨b, k, _, h2, h3, _⟩ := hk2 j kv u hj
    exact ⟨k, h2, kV_is h3⟩
  · have rel := (KV.merge (kvs := []) (vs := []) e2 .nil)
    have lm : (mergeK [] ps).length ≤ sizeLine := by
      have := length_mergeK ps []
      have l1 := Paired.length hp
      rw [List.length_nil] at this
      omega
    exact ⟨.ref s.heap.objs.size, _, I.laid (t' := tk) (fun b u hb => hk b u (by simp) hb) (Nat.le_refl _) (dk_new lm (beq_eq_false_iff_ne.mpr (Ne.symm (Nat.ne_of_lt I.big))) rel dd), rfl, q _ (I.hok.fresh (Nat.le_refl _))⟩
def pairsD : List D → Option (List (D × D))
  | [] => some []
  | .tup [k, v] :: ds => if (keyK k).isSome = true then (pairsD ds).map ((k, v) :: ·) else none
  | _ => none
def gNewDP : List D → Mem → Option (D × Mem)
  | [.lst xs], μ => match pairsD xs with
    | some kvs => some (.loc μ.length, μ ++ [.dct (mergeKD [] kvs)])
    | none => none
  | _, _ => none
section
variable {K : PySem.W.Frag} {mg : Str → Option Value} {T : List (Addr × Str)} {w : Wd} {μ : Mem} {H : Hp}
theorem pairsD_rel (r : RelM K mg T w μ H) : ∀ {xs : List D} {kvs : List (D × D)} {vs : List V}, pairsD xs = some kvs → RelDs K mg w xs vs → ∃ ps : List (Key × V), PrsV K H vs ps ∧ RelKV K mg w kvs ps
  | [], kvs, vs, e, rs => by
    cases e
    cases rs
    exact ⟨[], .nil, .nil⟩
  | d :: ds, kvs, vs, e, rs => by
    cases rs with
    | cons r1 r2 =>
      unfold pairsD at e
      split at e
      · next h => cases h
      · next k v ds' h =>
        cases h
        split at e
        · next hk =>
          obtain ⟨kvs', e2, rfl⟩ := Option.map_eq_some_iff.mp e
          obtain ⟨key, hkey⟩ := Option.isSome_iff_exists.mp hk
          obtain ⟨ps, h1, h2⟩ := pairsD_rel r e2 r2
          obtain ⟨a, us, rfl, hq, ru⟩ := tupOf_rel r r1 rfl
          cases ru with
          | @cons _ _ y ys q1 q2 =>
            cases q2 with
            | @cons _ _ z zs q3 q4 =>
              cases q4
              have ek := keyK_rel q1 hkey
              refine ⟨(key, z) :: ps, .cons ⟨a, rfl, by rw [← ek]; exact hq⟩ h1, ⟨?_, ?_⟩⟩
              · rw [List.map_cons, List.map_cons, h2.keys, keyK_keyD2 hkey]
              · exact .cons q3 h2.vals
        · cases e
      · cases e
end
section
variable {X : Cx} {S : SI} {W : WX} {e : Expr} {es : List Expr} {mr : AM} {pos p : Pos}
theorem pe_dictP (hc : X.calm = true) (hg : Gl X "dict") (hm : X.mg "dict" = none) (ha : PA X (e :: es) (TAm X S W mr)) (he : starEach (e :: es) X.env = (false, eval e X.env) :: starEach es X.env := by rfl) (hpl : (backTo pos (starEach es X.env)).any (·.1) = false := by rfl) :
    PE X (.Call (.Name "dict" p) (e :: es) [] pos) (TEm X S W <| eAsM gNewDP mr) := pe_AsM (fun t h => pe_callTy (call_dictP hc) hg hm (by decide +kernel) h (by decide) (by decide) he hpl) (fun xs H Q ⟨w, μ, ds, d, μ', r, rs, e, q⟩ => by
    unfold gNewDP at e
    split at e
    · next ys =>
      obtain ⟨x, rfl, rx⟩ := rs.one1
      split at e
      · next kvs hy =>
        cases e
        obtain ⟨a, vs, rfl, h2, h3⟩ := lstOf_rel r rx rfl
        obtain ⟨ps, h4, h5⟩ := pairsD_rel r hy h3
        have rv := mergeKD_rel h5 (RelKV.nil (K := X.K) (mg := X.mg) (w := w))
        exact ⟨a, vs, ps, rfl, h2, h4, put_new r (.dct rv.keys rv.vals) q⟩
      · cases e
    · cases e) ha
end
end Kw
set_option Elab.async false
set_option linter.all false
set_option maxRecDepth 100000
namespace Kw
open PySem PySem.Spec PyProof.Rows L2 PySem.Calls
section
variable {prog : Program} {w : World} {KK : Type} [DecidableEq KK] {knd : KeyKind prog w KK} {A : Around} {s : Shared}
theorem rcP_dictsN {a b : Addr} {ka kb : List (KK × Value)} {r : Bool} (ha : (a == sysModules) = false) (hb : (b == sysModules) = false)
    (da : s.heap.DictOf knd a ka) (db : s.heap.DictOf knd b kb) (hu : A.units < cLine) (hits : ka.length = kb.length → PySem.W.KeqHitsP prog w A.in1 s kb ka r) (E Q : Value → Shared → Prop) (h : Q (.bool !(ka.length == kb.length && r)) s) : wpAny (model prog w) A (richCompare .NotEq (.ref a) (.ref b)) Q E s := by
  refine wpAny_richCompare_same_room (op := .NotEq) da.typeIs db.typeIs PySem.F.slot_dict_ne (wpAny_call_entry PySem.F.slot_dict_ne da.typeIs PySem.F.entry_dict_ne ?_ (PySem.F.args_dict_ne_2 _ _)) hu
  show wpAny _ _ (Builtin.Dict.dictSlotArgs "__ne__" ⟨[.ref a, .ref b], []⟩ >>= _) _ _ s
  refine wpAny_bind ?_
  unfold Builtin.Dict.dictSlotArgs
  refine wpAny_bind (wpAny_notOrdered_dict da.typeIs ?_)
  show wpAny _ _ (pure (Value.ref a, Value.ref b)) _ _ s
  refine wpAny_pure ?_
  refine wpAny_bind (wpAny_isInstance (T := "dict") db.typeIs PySem.F.sub_dict_dict ?_)
  simp only [Bool.not_true, Bool.false_eq_true, if_false]
  refine wpAny_bind (wpAny_pure (wpAny_bind (wpAny_pure ?_)))
  refine wpAny_bind (PySem.W.samePairsP ha hb da db hits ?_)
  refine wpAny_pure ⟨_, rfl, ?_, ?_⟩
  · exact fun x => nomatch x
  · simpa using h
end
section
variable {X : Cx}
def rNeV (K : PySem.W.Frag) : R2 := fun x y H Q => ∃ n a b ks ls, n ≤ 60 ∧ x = .ref a ∧ y = .ref b ∧ H a = some (.dK ks) ∧ H b = some (.dK ls) ∧ ks.length = ls.length ∧ (∀ p ∈ ks, ∃ u, valV ls p.1 = some u ∧ EqV K H n p.2 u) ∧ Q (.bl false) H
theorem op_neV (hu : X.A.units + 64 < cLine) : OpR X (compareOp .NotEq) (rNeV X.K) := by
  intro pins s σ H x y v u Q I rx ry h
  obtain ⟨n, a, b, ks, ls, hn, rfl, rfl, ha, hb, hl, hp, q⟩ := h
  cases (show v = Value.ref a from rx)
  cases (show u = Value.ref b from ry)
  obtain ⟨_, ya, va, ra, da⟩ := (show ObjOk X.prog X.w H s.heap a (.dK ks) from I.hok a _ ha)
  obtain ⟨_, yb, vb, rb, db⟩ := (show ObjOk X.prog X.w H s.heap b (.dK ls) from I.hok b _ hb)
  refine rcP_dictsN (knd := mixKind X.prog X.w) (r := true) ya yb da db (by omega) (fun _ => hits_run (eqV_run I n X.A.in1 (by show X.A.units + 1 + n < cLine; omega)) rb ra hp) _ _ ?_
  have e : va.length = vb.length := by rw [← ra.length, ← rb.length]; exact hl
  rw [show (!(va.length == vb.length && true)) = false from by rw [e]; simp]
  exact ⟨.bl false, H, I, rfl, q⟩
end
def sameL : D → D → Bool
  | .lst xs, .lst ys => (intsOf xs).isSome && decide (intsOf xs = intsOf ys)
  | _, _ => false
def sameD (a b : List (D × D)) : Bool := decide (a.length = b.length) && a.all fun p => match keyK p.1 with
  | some k => match valD b k with
    | some d => sameL p.2 d
    | none => false
  | none => false
def gNeDD (x y : D) (μ : Mem) : Option D := match x, y with
  | .loc l, .loc j => match μ[l]?, μ[j]? with
    | some (.dct a), some (.dct b) => if sameD a b = true then some (.bl false) else none
    | _, _ => gNe x y μ
  | _, _ => gNe x y μ
section
variable {K : PySem.W.Frag} {mg : Str → Option Value} {T : List (Addr × Str)} {w : Wd} {μ : Mem} {H : Hp}
theorem eqV_ints : ∀ (ns : List Int) (n : Nat), Paired (EqV K H (n + 1)) (ns.map V.int) (ns.map V.int)
  | [], _ => .nil
  | i :: ns, n => .cons (.inl ⟨rfl, rfl⟩) (eqV_ints ns n)
theorem sameL_rel (r : RelM K mg T w μ H) {d d' : D} {v v' : V} (h : sameL d d' = true) (rd : RelD K mg w d v) (rd' : RelD K mg w d' v') : EqV K H 2 v v' := by
  unfold sameL at h
  split at h
  · next xs ys =>
    rw [Bool.and_eq_true, decide_eq_true_eq] at h
    obtain ⟨ns, hn⟩ := Option.isSome_iff_exists.mp h.1
    have e1 := intsOf_eq hn
    have e2 := intsOf_eq (h.2.symm.trans hn)
    subst e1 e2
    obtain ⟨a, vs, rfl, h1, h2⟩ := lstOf_rel r rd rfl
    obtain ⟨b, us, rfl, h3, h4⟩ := lstOf_rel r rd' rfl
    have f1 := ints_vals h2
    have f2 := ints_vals h4
    subst f1 f2
    exact .inr (.inr (.inl ⟨a, b, _, _, rfl, rfl, h1, h3, eqV_ints ns 0⟩))
  · cases h
theorem sameD_rel (r : RelM K mg T w μ H) {b : List (D × D)} {ls : List (Key × V)} (rb : RelKV K mg w b ls) : ∀ {a : List (D × D)} {ks : List (Key × V)}, (a.all fun p => match keyK p.1 with
    | some k => match valD b k with
      | some d => sameL p.2 d
      | none => false
    | none => false) = true → RelKV K mg w a ks → ∀ p ∈ ks, ∃ u, valV ls p.1 = some u ∧ EqV K H 2 p.2 u
  | [], ks, _, ra, p, hp => by rw [ra.unnil] at hp; cases hp
  | q :: a, ks, h, ra, p, hp => by
    obtain ⟨g, ks', rfl, h1, h2, h3⟩ := ra.uncons
    rw [List.all_cons, Bool.and_eq_true] at h
    rcases List.mem_cons.mp hp with rfl | hp
    · have h := h.1
      rw [h1, keyK_keyD] at h
      simp only at h
      split at h
      · next d hd =>
        obtain ⟨v1, _⟩ := valD_rel (k := p.1) rb
        obtain ⟨u, hu, ru⟩ := v1 d hd
        exact ⟨u, hu, sameL_rel r h h2 ru⟩
      · cases h
    · exact sameD_rel r rb h.2 h3 p hp
end
section
variable {X : Cx} {S : SI} {W : WX} {a b : Expr} {ma mb : EM} {pos : Pos}
theorem neDD_r {K : PySem.W.Frag} {mg : Str → Option Value} {T : List (Addr × Str)} {x y : V} {H : Hp} {Q : VK} (h : rD2 K mg T gNeDD x y H Q) : rNeV K x y H Q ∨ rD2 K mg T gNe x y H Q := by
  obtain ⟨w, μ, dx, dy, d, r, rx, ry, e, q⟩ := h
  unfold gNeDD at e
  split at e
  · next l j =>
    split at e
    · next ka kb h1 h2 =>
      split at e
      · next hs =>
        cases e
        cases rx with
        | loc hl =>
          cases ry with
          | loc hj =>
            obtain ⟨ks, g1, g2⟩ := r.dct h1
            obtain ⟨ls, g3, g4⟩ := r.dct h2
            unfold sameD at hs
            rw [Bool.and_eq_true, decide_eq_true_eq] at hs
            exact .inl ⟨2, _, _, ks, ls, by omega, rfl, rfl, g1, g3, by rw [← g2.length, ← g4.length]; exact hs.1, sameD_rel r g4 hs.2 g2, q.same r (.bl _)⟩
      · cases e
    · exact .inr ⟨w, μ, _, _, d, r, rx, ry, e, q⟩
  · exact .inr ⟨w, μ, _, _, d, r, rx, ry, e, q⟩
theorem pt_neDD (hu : X.A.units + 64 < cLine) (ha : PE X a (TEm X S W ma)) (hb : PE X b (TEm X S W mb)) : PT X (.Compare a [.NotEq] [b] pos) (TTm X S W <| tBl (e2 gNeDD ma mb)) := pt_cmp2 ((op_neV hu).or (op_neD hu)) (nomark b) (fun _ _ _ _ h => (neDD_r h).imp id ne_r) ha hb
end
end Kw
set_option Elab.async false
set_option linter.all false
set_option maxRecDepth 100000
namespace Kw
open PySem PySem.Spec PyProof.Rows L2 PySem.Calls PySem.W
def minTP : PyData → List PyData → PyData := PySem.W.minD
theorem each_reads {s : Shared} : ∀ {bs : List (V × PyData)} {its : List Value}, EachIs (fun v (b : V × PyData) => ∃ as, Reads s.heap v (Prod.snd b) as) its bs → ∃ as, ReadsAll s.heap its (bs.map Prod.snd) as
  | [], _, h => by cases h; exact ⟨[], .nil⟩
  | b :: bs, _, h => by
    cases h with
    | cons h t =>
      obtain ⟨as, r⟩ := h
      obtain ⟨cs, rs⟩ := each_reads t
      exact ⟨as ++ cs, .cons r rs⟩
theorem each_at {R : Value → V × PyData → Prop} : ∀ {bs : List (V × PyData)} {its : List Value}, EachIs R its bs → ∀ (i : Nat) (v : Value), its[i]? = some v → ∃ b, bs[i]? = some b ∧ R v b
  | [], _, h, i, v, e => by cases h; simp at e
  | b :: bs, _, h, i, v, e => by
    cases h with
    | cons h t =>
      cases i with
      | zero => cases e; exact ⟨b, rfl, h⟩
      | succ i => exact each_at t i v e
def rMinT (K : PySem.W.Frag) : List V → Hp → VK → Prop := fun vs H Q => ∃ (a : Addr) (b0 : V × PyData) (bs : List (V × PyData)), vs = [V.ref a] ∧ SqL K H a ((b0 :: bs).map Prod.fst) ∧ (∀ b ∈ b0 :: bs, Dp K H b.1 b.2) ∧ srtOk ((b0 :: bs).map Prod.snd) = true ∧
  ∀ b ∈ b0 :: bs, b.2 = minTP b0.2 (bs.map Prod.snd) → Q b.1 H
theorem cr_minT {X : Cx} (hc : X.calm = true) (hu : X.A.units + 64 < cLine) : L2.CallR X (.builtin "min") (rMinT X.K) := by
  intro pins s σ H vs us Q I r h
  obtain ⟨a, b0, bs, rfl, hs, hdp, hok, q⟩ := h
  obtain ⟨its, rv, hl, _⟩ := I.list hs
  rw [Vals.ref1 r]
  have e0 := vals_each rv
  have em := (each_mem e0).mono fun u b ⟨h1, h2⟩ => (⟨h1, h2, Dp.reads I _ _ _ (hdp b h2) h1⟩ : RelV b.1 u ∧ b ∈ b0 :: bs ∧ ∃ as, Reads s.heap u b.2 as)
  obtain ⟨as, hr⟩ := each_reads (em.mono fun u b h => h.2.2)
  have hr : ReadsAll s.heap its.toArray.toList (b0.2 :: bs.map Prod.snd) as := by simpa using hr
  have al : AlikeAll (b0.2 :: bs.map Prod.snd) := ⟨fun x hx y hy => srtOk_alike hok x hx y hy, fun x hx e => by
    subst e
    unfold srtOk at hok
    rw [Bool.and_eq_true, Bool.and_eq_true, Bool.or_eq_true] at hok
    rcases hok.1.2 with k | k
    · cases List.all_eq_true.mp k _ hx
    · cases List.all_eq_true.mp k _ hx⟩
  have dl : ∀ ps : List PyData, (∀ d ∈ ps, d.depth ≤ 40) → PyData.depthAll ps ≤ 40 := fun ps => by
    induction ps with
    | nil => intro _; exact Nat.zero_le _
    | cons p ps ih =>
      intro h
      rw [PyData.depthAll]
      exact Nat.max_le.mpr ⟨h p (.head _), ih fun d hd => h d (.tail _ hd)⟩
  have dd := dl _ (srtOk_depth hok)
  refine min_list_data (I.ok.hd hc) hl.isList hr al (by have : PyData.depthAll (b0.2 :: bs.map Prod.snd) ≤ 40 := dd; omega) fun i v h' tk cs hv hrd hk => ?_
  obtain ⟨b, hb, rb, hm, as2, r2⟩ := each_at em i v (by simpa using hv)
  obtain ⟨e, _⟩ := reads_det (fun b o h _ => hk b o h) r2 hrd
  exact ⟨b.1, H, I.kept hk, rb, q b hm e.symm⟩
def tIs (ns : List Int) : D := .tup (ns.map D.int)
def pIs (ns : List Int) : PyData := .tuple (ns.map PyData.int)
theorem enTI : En 1 tIs pIs := En.int.tup
theorem odTI : Od pIs (lstLt fun i j : Int => decide (i < j)) := Od.tup En.int Od.int
def tupsI : List D → Option (List (List Int))
  | [] => some []
  | .tup xs :: ds => match intsOf xs, tupsI ds with
    | some a, some b => some (a :: b)
    | _, _ => none
  | _ => none
theorem tupsI_eq : ∀ {xs : List D} {nss : List (List Int)}, tupsI xs = some nss → xs = nss.map tIs
  | [], _, h => by cases h; rfl
  | d :: ds, nss, h => by
    unfold tupsI at h
    split at h
    · next h0 => cases h0
    · next xs ds' h0 =>
      cases h0
      split at h
      · next a b h1 h2 =>
        cases h
        rw [List.map_cons, ← tupsI_eq h2, intsOf_eq h1]; rfl
      · cases h
    · cases h
theorem tupsI_map : ∀ nss : List (List Int), tupsI (nss.map tIs) = some nss
  | [] => rfl
  | n :: nss => by
    rw [List.map_cons]
    show (match intsOf (n.map D.int), tupsI (nss.map tIs) with
      | some a, some b => some (a :: b)
      | _, _ => none) = _
    rw [intsOf_map, tupsI_map nss]
/-- the first of the least -/
def lowT (n : List Int) (nss : List (List Int)) : List Int := nss.foldl (fun a y => if lstLt (fun i j : Int => decide (i < j)) y a = true then y else a) n
theorem lowT_minD : ∀ (nss : List (List Int)) (n : List Int), minTP (pIs n) (nss.map pIs) = pIs (lowT n nss)
  | [], n => rfl
  | m :: nss, n => by
    have e : minTP (pIs n) ((m :: nss).map pIs) = minTP (if dataLt (pIs m) (pIs n) = true then pIs m else pIs n) (nss.map pIs) := rfl
    rw [e, odTI.lt]
    show _ = pIs (lowT (if lstLt (fun i j : Int => decide (i < j)) m n = true then m else n) nss)
    split
    · exact lowT_minD nss m
    · exact lowT_minD nss n
theorem pI_inj {a b : List Int} (h : pIs a = pIs b) : a = b := by
  unfold pIs at h
  injection h with h
  exact (List.map_inj_right (fun _ _ e => by injection e)).mp h
def gMinT : List D → Mem → Option D
  | [.lst xs], _ => match tupsI xs with
    | some (n :: nss) => if (n :: nss).all (fun m => !m.isEmpty) = true then some (tIs (lowT n nss)) else none
    | _ => none
  | _, _ => none
section
variable {K : PySem.W.Frag} {mg : Str → Option Value} {T : List (Addr × Str)} {w : Wd} {μ : Mem} {H : Hp}
theorem tups_vals (r : RelM K mg T w μ H) : ∀ {nss : List (List Int)} {vs : List V}, RelDs K mg w (nss.map tIs) vs → ∃ bs : List (V × PyData), bs.map Prod.fst = vs ∧ bs.map Prod.snd = nss.map pIs ∧ (∀ b ∈ bs, Dp K H b.1 b.2) ∧ ∀ b ∈ bs, ∀ m, b.2 = pIs m → RelD K mg w (tIs m) b.1
  | [], _, h => by cases h; exact ⟨[], rfl, rfl, (fun b h => by cases h), (fun b h => by cases h)⟩
  | n :: nss, _, h => by
    cases h with
    | @cons _ _ v vs h1 h2 =>
      obtain ⟨bs, e1, e2, e3, e4⟩ := tups_vals r h2
      refine ⟨(v, pIs n) :: bs, by rw [List.map_cons, e1], by rw [List.map_cons, e2]; rfl, fun b hb => ?_, fun b hb m hm => ?_⟩
      · rcases List.mem_cons.mp hb with rfl | hb
        · exact pyOf_dp r h1 (enTI.py _ n)
        · exact e3 b hb
      · rcases List.mem_cons.mp hb with rfl | hb
        · rw [← pI_inj hm]; exact h1
        · exact e4 b hb m hm
end
section
variable {X : Cx} {S : SI} {W : WX} {p pos : Pos} {e : Expr} {es : List Expr} {mr : AM}
theorem pe_minT (hc : X.calm = true) (hu : X.A.units + 64 < cLine) (hg : Gl X "min") (hm : X.mg "min" = none) (ha : PA X (e :: es) (TAm X S W mr)) (he : starEach (e :: es) X.env = (false, eval e X.env) :: starEach es X.env := by rfl) (hpl : (backTo pos (starEach es X.env)).any (·.1) = false := by rfl) :
    PE X (.Call (.Name "min" p) (e :: es) [] pos) (TEm X S W <| eAs gMinT mr) := pe_As (fun t h => pe_callB (cr_minT hc hu) hg hm (by decide +kernel) h (by decide) (by decide) he hpl) (fun xs H Q ⟨w, μ, ds, d, r, rs, e, q⟩ => by
    unfold gMinT at e
    split at e
    · next ys =>
      obtain ⟨x, rfl, rx⟩ := rs.one1
      split at e
      · next n nss hn =>
        split at e
        · next ok =>
          cases e
          obtain ⟨a, vs, rfl, h2, h3⟩ := lstOf_rel r rx rfl
          rw [tupsI_eq hn] at h3
          obtain ⟨bs, e1, e2, e3, e4⟩ := tups_vals r h3
          cases bs with
          | nil => cases e2
          | cons b0 bs =>
            rw [List.map_cons, List.map_cons] at e2
            injection e2 with e5 e6
            refine ⟨a, b0, bs, rfl, by rw [e1]; exact h2, e3, ?_, fun b hb hm => ?_⟩
            · rw [List.map_cons, e5, e6, ← List.map_cons]
              exact odTI.ok (n :: nss) (.inl fun m hm => by
                have := List.all_eq_true.mp ok m hm
                cases m with
                | nil => cases this
                | cons i m => rfl) fun m _ => Nat.le_trans (enTI.dep m) (by omega)
            · rw [e5, e6, lowT_minD] at hm
              exact q.same r (e4 b hb _ hm)
        · cases e
      · cases e
    · cases e) ha
end
end Kw
set_option Elab.async false
set_option linter.all false
set_option maxRecDepth 100000
namespace Kw
open PySem PySem.Spec PyProof.Rows L2 PySem.Calls
def rNinN : R2 := fun y x H Q => ∃ a kvs, y = .non ∧ x = .ref a ∧ Rd H a (.dK kvs) ∧ Q (.bl true) H
theorem op_ninN {X : Cx} : OpR X (compareOp .NotIn) rNinN := by
  intro pins s σ H y x u v Q I ry rx h
  obtain ⟨a, kvs, rfl, rfl, e, q⟩ := h
  obtain rfl : u = Value.none := ry
  cases (show v = Value.ref a from rx)
  exact d_notInNone I e fun s' I' => ⟨.bl true, H, I', rfl, q⟩
def gNinN (y x : D) (μ : Mem) : Option D := match y, dctOf μ x with
  | .non, some _ => some (.bl true)
  | _, _ => gNinD y x μ
section
variable {K : PySem.W.Frag} {mg : Str → Option Value} {T : List (Addr × Str)}
theorem ninN_r {x y : V} {H : Hp} {Q : VK} (h : rD2 K mg T gNinN y x H Q) : rNinN y x H Q ∨ rD2 K mg T gNinD y x H Q := by
  obtain ⟨w, μ, dy, dx, d, r, ry, rx, e, q⟩ := h
  unfold gNinN at e
  split at e
  · next kvs hk =>
    cases e
    cases ry
    obtain ⟨a, gs, rfl, hr, _⟩ := dctOf_rel r rx hk
    exact .inl ⟨a, gs, rfl, rfl, hr, q.same r (.bl _)⟩
  · exact .inr ⟨w, μ, _, dx, d, r, ry, rx, e, q⟩
end
section
variable {X : Cx} {S : SI} {W : WX} {a b : Expr} {ma mb : EM} {pos : Pos}
theorem pt_ninN (hu : X.A.units + 65 < cLine) (hm : behindInMarks .NotIn b = false) (ha : PE X a (TEm X S W ma)) (hb : PE X b (TEm X S W mb)) : PT X (.Compare a [.NotIn] [b] pos) (TTm X S W <| tBl (e2 gNinN ma mb)) := pt_cmp2 (op_ninN.or ((op_ninDc (by omega)).or (op_notIn_seq.or (op_notInD hu)))) hm (fun _ _ _ _ h => (ninN_r h).imp id fun h => ninD_r (fun h => (rD2_or h).imp ninF_ok ninDp_ok) h) ha hb
end
end Kw
set_option Elab.async false
set_option linter.all false
set_option maxRecDepth 100000
namespace Kw
open PySem PySem.Spec PyProof.Rows L2 PySem.Calls
theorem call_lenR {X : Cx} : L2.CallR X (.builtin "len") (fun xs H Q => ∃ a kvs, xs = [V.ref a] ∧ Rd H a (.dK kvs) ∧ Q (.int kvs.length) H) := by
  intro pins s σ H xs us Q I r h
  obtain ⟨a, kvs, rfl, ha, q⟩ := h
  obtain ⟨u, rfl, ru⟩ := vals1 r
  cases ru
  exact d_len I ha fun t s' I' => ⟨.int kvs.length, H, I', ⟨t, rfl⟩, q⟩
def gLenB : List D → Mem → Option D
  | [x], μ => match dctOf μ x with
    | some kvs => some (.int kvs.length)
    | none => gLen [x] μ
  | _, _ => none
section
variable {K : PySem.W.Frag} {mg : Str → Option Value} {T : List (Addr × Str)} {xs : List V} {H : Hp} {Q : VK}
theorem lenB_r (h : rDs K mg T gLenB xs H Q) : (∃ a kvs, xs = [V.ref a] ∧ Rd H a (.dK kvs) ∧ Q (.int kvs.length) H) ∨ rDs K mg T gLen xs H Q := by
  obtain ⟨w, μ, ds, d, r, rs, e, q⟩ := h
  unfold gLenB at e
  split at e
  · next x =>
    split at e
    · next kvs hk =>
      cases e
      obtain ⟨v, rfl, rx⟩ := rs.one1
      obtain ⟨a, gs, rfl, hr, rk⟩ := dctOf_rel r rx hk
      exact .inl ⟨a, gs, rfl, hr, by rw [← rk.length]; exact q.same r (.int _)⟩
    · exact .inr ⟨w, μ, _, d, r, rs, e, q⟩
  · cases e
end
section
variable {X : Cx} {S : SI} {W : WX} {p pos : Pos} {e : Expr} {es : List Expr} {mr : AM}
theorem pe_lenB' (hg : Gl X "len") (hm : X.mg "len" = none) (ha : PA X (e :: es) (TAm X S W mr)) (he : starEach (e :: es) X.env = (false, eval e X.env) :: starEach es X.env := by rfl) (hpl : (backTo pos (starEach es X.env)).any (·.1) = false := by rfl) :
    PE X (.Call (.Name "len" p) (e :: es) [] pos) (TEm X S W <| eAs gLenB mr) := pe_As (fun t h => pe_callB (call_lenR.or (call_len_seq.or (call_len_str.or call_lenD))) hg hm PySem.boot_len h (by decide) (by decide) he hpl) (fun _ _ _ h => (lenB_r h).imp id len_r) ha
end
theorem gLenB_dct {x : D} {μ : Mem} {kvs : List (D × D)} (h : dctOf μ x = some kvs) : gLenB [x] μ = some (.int (kvs.length : Int)) := by
  unfold gLenB
  simp only [h]
end Kw
set_option Elab.async false
set_option linter.all false
set_option maxRecDepth 100000
namespace K61
open PySem PySem.Spec PyProof.Rows L2 Kw
def exTab : ExT := [(("NoObject", "NoObject"), true)]
def m_need_there : SM := (sSeq (sIf (tBl (e2 gNinN (eVar 1) (eVar 0))) (sRaise "NoObject" "name" (eVar 1)) sNext) (sRet (eVar 1)))
def f_need_there : FM := bodyM 2 m_need_there
def m_elders : SM := (sSeq (sAsg (eDispN (eCallP f_need_there (aCons (eVar 0) (aCons (eVar 1) aNil))) (eC (.bl true))) (gNm 2)) (sSeq (sAsg (eAsM gNewL (aCons (eVar 1) aNil)) (gNm 3)) (sSeq (sWhile (fun _ _ => 1000) (tBl (e2 gGt (eAs gLen (aCons (eVar 3) aNil)) (eC (.int 0)))) (sFor (iSeq (e2 gIxD (eVar 0) (eMtL gPop (eVar 3) aNil))) (gNm 4) (sIf (tBl (e2 gNinD (eCallP f_need_there (aCons (eVar 0) (aCons (eVar 4) aNil))) (eVar 2))) (sSeq (sAsg (eC (.bl true)) (gSubMD (eVar 2) (eVar 4))) (sDrop (eMtL gAppend (eVar 3) (aCons (eVar 4) aNil)))) sNext))) (sRet (eAs gTuple (aCons (eAs gSrt (aCons (eAs gListK (aCons (eVar 2) aNil)) aNil)) aNil))))))
def f_elders : FM := bodyM 5 m_elders
def m_common_elders : SM := (sSeq (sAsg (eCallP f_elders (aCons (eVar 0) (aCons (eVar 1) aNil))) (gNm 3)) (sSeq (sAsg (eDc (iSeq (eCallP f_elders (aCons (eVar 0) (aCons (eVar 2) aNil)))) (gNm 5) tYesM (eVar 5) (eC (.bl true)) [5]) (gNm 4)) (sRet (eAs gTuple (aCons (eLc (iSeq (eVar 3)) (gNm 5) (tBl (e2 gInD (eVar 5) (eVar 4))) (eVar 5) [5]) aNil)))))
def f_common_elders : FM := bodyM 6 m_common_elders
def m_nearest_common : SM := (sSeq (sAsg (eCallP f_common_elders (aCons (eVar 0) (aCons (eVar 1) (aCons (eVar 2) aNil)))) (gNm 3)) (sSeq (sAsg eNewD (gNm 4)) (sSeq (sFor (iSeq (eVar 3)) (gNm 5) (sDrop (eUpd (eVar 4) (eDc2 (iSeq (e2 gIxD (eVar 0) (eVar 5))) (gNm 6) tYesM (iSeq (eCallP f_elders (aCons (eVar 0) (aCons (eVar 6) aNil)))) (gNm 7) tYesM (eVar 7) (eC (.bl true)) [6, 7] [7])))) (sRet (eAs gTuple (aCons (eLc (iSeq (eVar 3)) (gNm 5) (tBl (e2 gNinD (eVar 5) (eVar 4))) (eVar 5) [5]) aNil))))))
def f_nearest_common : FM := bodyM 8 m_nearest_common
def m_way_up : SM := (sSeq (sAsg (eDispN (eCallP f_need_there (aCons (eVar 0) (aCons (eVar 1) aNil))) (eAs gTupD (aCons (eVar 1) aNil))) (gNm 3)) (sSeq (sDrop (eCallP f_need_there (aCons (eVar 0) (aCons (eVar 2) aNil)))) (sSeq (sAsg (eAsM gNewL (aCons (eVar 1) aNil)) (gNm 4)) (sSeq (sAsg (eC (.int 0)) (gNm 5)) (sSeq (sWhile (fun _ _ => 1000) (tAndM (tBl (e2 gLt (eVar 5) (eAs gLen (aCons (eVar 4) aNil)))) (tBl (e2 gNinD (eVar 2) (eVar 3)))) (sSeq (sAsg (e2 gIx (eVar 4) (eVar 5)) (gNm 6)) (sSeq (sAug 5 gAddJ (eC (.int 1))) (sFor (iSeq (eAs gSrt (aCons (eAs gList (aCons (e2 gIxD (eVar 0) (eVar 6)) aNil)) aNil))) (gNm 7) (sIf (tBl (e2 gNinD (eCallP f_need_there (aCons (eVar 0) (aCons (eVar 7) aNil))) (eVar 3))) (sSeq (sAsg (e2 gAdd (e2 gIxD (eVar 3) (eVar 6)) (eAs gTupD (aCons (eVar 7) aNil))) (gSubMD (eVar 3) (eVar 7))) (sDrop (eMtL gAppend (eVar 4) (aCons (eVar 7) aNil)))) sNext))))) (sRet (eGet1 (eVar 3) (eVar 2))))))))
def f_way_up : FM := bodyM 8 m_way_up
def m__law_box : SM := (sSeq (sAsg (e2 gAdd (e2 gMul (eC (.int 8069)) (eVar 1)) (eC (.int 601))) (gNm 2)) (sSeq (sIf (tBl (e2 gLt (eVar 1) (eAs gLen (aCons (eVar 0) aNil)))) (sAsg (eAs gAbs (aCons (eAs gInt (aCons (e2 gIx (eVar 0) (eVar 1)) aNil)) aNil)) (gNm 2)) (sIf (tBl (e2 gGt (eAs gLen (aCons (eVar 0) aNil)) (eC (.int 0)))) (sAsg (e2 gAdd (eVar 2) (e2 gMul (e2 gMod (eAs gInt (aCons (eAs gAbs (aCons (eAs gInt (aCons (e2 gIx (eVar 0) (e2 gMod (eAs gInt (aCons (eVar 1) aNil)) (eAs gLen (aCons (eVar 0) aNil)))) aNil)) aNil)) aNil)) (eC (.int 2147483587))) (eC (.int 50231)))) (gNm 2)) sNext)) (sSeq (sAsg (eIfM (tBl (e2 gGe (eVar 2) (e2 gPow (eC (.int 10)) (eC (.int 18))))) (eVar 2) (eC (.int 0))) (gNm 3)) (sRet (eAsM gNewL (aCons (eVar 3) (aCons (e2 gAdd (e2 gMod (eAs gInt (aCons (e2 gAdd (e2 gMul (e2 gMod (eAs gInt (aCons (eVar 2) aNil)) (eC (.int 2147483587))) (eC (.int 69621))) (e2 gMul (eC (.int 601)) (eVar 1))) aNil)) (eC (.int 2147483587))) (eC (.int 1))) aNil)))))))
def f__law_box : FM := bodyM 4 m__law_box
def m__law_take : SM := (sSeq (sIf (tBl (e2 gGt (e2 gIx (eVar 0) (eC (.int 0))) (eC (.int 0)))) (sSeq (sAsg (e2 gMod (eAs gInt (aCons (e2 gIx (eVar 0) (eC (.int 0))) aNil)) (eVar 1)) (gNm 2)) (sSeq (sAsg (e2 gFdv (e2 gIx (eVar 0) (eC (.int 0))) (eVar 1)) (gSubM (eVar 0) (eC (.int 0)))) (sRet (eVar 2)))) sNext) (sSeq (sAsg (e2 gMod (eAs gInt (aCons (e2 gAdd (e2 gMul (e2 gIx (eVar 0) (eC (.int 1))) (eC (.int 40692))) (eC (.int 211))) aNil)) (eC (.int 2147483399))) (gNm 3)) (sSeq (sAsg (e2 gAdd (e2 gMod (eAs gInt (aCons (e2 gAdd (e2 gMul (eVar 3) (eC (.int 40014))) (eC (.int 31))) aNil)) (eC (.int 2147483587))) (eC (.int 1))) (gSubM (eVar 0) (eC (.int 1)))) (sRet (e2 gMod (eAs gInt (aCons (e2 gFdv (e2 gAdd (e2 gMul (eVar 3) (eC (.int 2147483629))) (e2 gIx (eVar 0) (eC (.int 1)))) (eC (.int 8219))) aNil)) (eVar 1))))))
def f__law_take : FM := bodyM 4 m__law_take
def m__law_pick : SM := (sRet (e2 gIx (eVar 1) (eCallM f__law_take (aCons (eVar 0) (aCons (eAs gLen (aCons (eVar 1) aNil)) aNil)))))
def f__law_pick : FM := bodyM 2 m__law_pick
def m__law_web : SM := (sSeq (sPar 1 2 (aCons (eAsM gNewL aNil) (aCons eNewD aNil))) (sSeq (sFor (iRange1 (aCons (e2 gAdd (eC (.int 1)) (eCallM f__law_take (aCons (eVar 0) (aCons (eC (.int 12)) aNil)))) aNil)) (gNm 3) (sSeq (sAsg (eCallM f__law_take (aCons (eVar 0) (aCons (eC (.int 900)) aNil))) (gNm 4)) (sSeq (sIf (tBl (e2 gInD (eVar 4) (eVar 2))) sCont sNext) (sSeq (sAsg (eAsM gNewL aNil) (gNm 5)) (sSeq (sFor (iRange1 (aCons (eCallM f__law_pick (aCons (eVar 0) (aCons (eAs gLstD (aCons (eC (.int 1)) (aCons (eC (.int 1)) (aCons (eC (.int 2)) (aCons (eC (.int 2)) (aCons (eC (.int 3)) (aCons (eC (.int 0)) aNil))))))) aNil))) aNil)) (gNm 6) (sIf (tBl (e2 gNe (eVar 1) (eAs gLstD aNil))) (sSeq (sAsg (eSl (eVar 1) (oSome (eAs gMax2 (aCons (eC (.int 0)) (aCons (e2 Kw.gSub (eAs gLen (aCons (eVar 1) aNil)) (eC (.int 4))) aNil)))) oNo) (gNm 7)) (sDrop (eMtL gAppend (eVar 5) (aCons (eIfM (tBl (e2 gGt (eCallM f__law_take (aCons (eVar 0) (aCons (eC (.int 3)) aNil))) (eC (.int 0)))) (eCallM f__law_pick (aCons (eVar 0) (aCons (eVar 7) aNil))) (eCallM f__law_pick (aCons (eVar 0) (aCons (eVar 1) aNil)))) aNil)))) sNext)) (sSeq (sAsg (eAs gTuple (aCons (eLcN false (nEnu (aCons (eVar 5) aNil)) (gSeq 2 (gsCons (gNm 8) (gsCons (gNm 9) gsNil))) (tBl (e2 gNin (eVar 9) (eSl (eVar 5) oNo (oSome (eVar 8))))) (eVar 9) [8, 9]) aNil)) (gSubMD (eVar 2) (eVar 4))) (sDrop (eMtL gAppend (eVar 1) (aCons (eVar 4) aNil))))))))) (sRet (eAs gTupD (aCons (eVar 1) (aCons (eVar 2) aNil))))))
def f__law_web : FM := bodyM 10 m__law_web
def m__law_elders : SM := (sSeq (sAsg (eAs gLstD (aCons (eVar 1) aNil)) (gNm 2)) (sSeq (sFor (iRange1 (aCons (eAs gLenB (aCons (eVar 0) aNil)) aNil)) (gNm 3) (sFor (iSeq (eAs gList (aCons (eVar 2) aNil))) (gNm 4) (sAsg (e2 gAdd (eVar 2) (eLc (iSeq (e2 gIxD (eVar 0) (eVar 4))) (gNm 5) (tBl (e2 gNin (eVar 5) (eVar 2))) (eVar 5) [5])) (gNm 2)))) (sRet (eAs gSrtSet (aCons (eVar 2) aNil)))))
def f__law_elders : FM := bodyM 6 m__law_elders
def m__law_ways : SM := (sSeq (sPar 3 4 (aCons (eAs gLstD aNil) (aCons (eAs gLstD (aCons (eAs gTupD (aCons (eVar 1) aNil)) aNil)) aNil))) (sSeq (sFor (iRange1 (aCons (e2 gAdd (eAs gLenB (aCons (eVar 0) aNil)) (eC (.int 1))) aNil)) (gNm 5) (sSeq (sAsg (e2 gAdd (eVar 3) (eLc (iSeq (eVar 4)) (gNm 7) (tBl (e2 gEq (e2 gIx (eVar 7) (e1 gNeg (eC (.int 1)))) (eVar 2))) (eVar 7) [7])) (gNm 3)) (sSeq (sAsg (eAs gLstD aNil) (gNm 6)) (sSeq (sFor (iSeq (eVar 4)) (gNm 7) (sAsg (e2 gAdd (eVar 6) (eLc (iSeq (e2 gIxD (eVar 0) (e2 gIx (eVar 7) (e1 gNeg (eC (.int 1)))))) (gNm 8) tYesM (e2 gAdd (eVar 7) (eAs gTupD (aCons (eVar 8) aNil))) [8])) (gNm 6))) (sAsg (eSl (eVar 6) oNo (oSome (eC (.int 600)))) (gNm 4)))))) (sRet (eVar 3))))
def f__law_ways : FM := bodyM 9 m__law_ways
def m__law_heard (ask : AskM) : SM := (sTryU exTab (sRet (eAs gTupD (aCons (eC (.str "told")) (aCons (eAsk ask) aNil)))) [("NoObject", 1, (sRet (eAs gTupD (aCons (eC (.str "object")) (aCons (eAs gRepr (aCons (eFld "NoObject" "name" 1) aNil)) (aCons (eIsX "NoObject" true 1) aNil))))))])
def f__law_heard : AskM → Mem → Out D := fun ask => bodyH 2 (m__law_heard ask)
def m__law_pair_right : SM := (sSeq (sAsg (eLc (iSeq (eCallP f__law_elders (aCons (eVar 0) (aCons (eVar 1) aNil)))) (gNm 5) (tBl (e2 gIn (eVar 5) (eCallP f__law_elders (aCons (eVar 0) (aCons (eVar 2) aNil))))) (eVar 5) [5]) (gNm 3)) (sSeq (sAsg (eLc (iSeq (eVar 3)) (gNm 5) (tBl (e2 gEq (eLc (iSeq (eVar 3)) (gNm 6) (tAndM (tBl (e2 gNe (eVar 6) (eVar 5))) (tBl (e2 gIn (eVar 5) (eCallP f__law_elders (aCons (eVar 0) (aCons (eVar 6) aNil)))))) (eVar 6) [6]) (eAs gLstD aNil))) (eVar 5) [5]) (gNm 4)) (sSeq (sIf (tBl (e2 gNe (eAs gRepr (aCons (eAs gLstD (aCons (eCallP f_common_elders (aCons (eVar 0) (aCons (eVar 1) (aCons (eVar 2) aNil)))) (aCons (eCallP f_nearest_common (aCons (eVar 0) (aCons (eVar 1) (aCons (eVar 2) aNil)))) aNil))) aNil)) (eAs gRepr (aCons (eAs gLstD (aCons (eAs gTuple (aCons (eVar 3) aNil)) (aCons (eAs gTuple (aCons (eVar 4) aNil)) aNil))) aNil)))) (sRet (eC (.bl false))) sNext) (sSeq (sIf (tOrM (tBl (e2 gNe (eCallK0 f_nearest_common [2, 1, 0] (aCons (eVar 1) (aCons (eVar 2) (aCons (eVar 0) aNil)))) (eAs gTuple (aCons (eVar 4) aNil)))) (tBl (e2 gNe (eCallK0 f_common_elders [2, 1, 0] (aCons (eVar 1) (aCons (eVar 2) (aCons (eVar 0) aNil)))) (eAs gTuple (aCons (eVar 3) aNil))))) (sRet (eC (.bl false))) sNext) (sSeq (sIf (tBl (e2 gNe (eLc (iSeq (eVar 3)) (gNm 5) (tBl (e2 gEq (eLc (iSeq (eVar 4)) (gNm 6) (tBl (e2 gIn (eVar 5) (eCallP f__law_elders (aCons (eVar 0) (aCons (eVar 6) aNil))))) (eVar 6) [6]) (eAs gLstD aNil))) (eVar 5) [5]) (eAs gLstD aNil))) (sRet (eC (.bl false))) sNext) (sRet (eOrM (e2 gNin (eVar 1) (eCallP f__law_elders (aCons (eVar 0) (aCons (eVar 2) aNil)))) (e2 gEq (eVar 4) (eAs gLstD (aCons (eVar 1) aNil))))))))))
def f__law_pair_right : FM := bodyM 7 m__law_pair_right
def m_law_b1 : SM := (sAsg (eAs gList (aCons (e2 gIxD (eVar 4) (eVar 6)) aNil)) (gSubMD (eVar 5) (eVar 6)))
def m_law_b2 : SM := (sSeq (sPar 8 9 (aCons (eCallM f__law_pick (aCons (eVar 2) (aCons (eVar 3) aNil))) (aCons (eCallM f__law_pick (aCons (eVar 2) (aCons (eVar 3) aNil))) aNil))) (sSeq (sIf (tOrM (tBl (e2 gNe (eAs gRepr (aCons (eCallP f_elders (aCons (eVar 5) (aCons (eVar 8) aNil))) aNil)) (eAs gRepr (aCons (eAs gTuple (aCons (eCallP f__law_elders (aCons (eVar 4) (aCons (eVar 8) aNil))) aNil)) aNil)))) (tBl (e2 gNe (eCallK0 f_elders [1, 0] (aCons (eVar 9) (aCons (eVar 4) aNil))) (eAs gTuple (aCons (eCallP f__law_elders (aCons (eVar 4) (aCons (eVar 9) aNil))) aNil))))) (sRet (eC (.bl false))) sNext) (sSeq (sIf (tNotM (tTru (eCallP f__law_pair_right (aCons (eVar 4) (aCons (eVar 8) (aCons (eVar 9) aNil)))))) (sRet (eC (.bl false))) sNext) (sSeq (sAsg (eCallP f__law_ways (aCons (eVar 4) (aCons (eVar 8) (aCons (eVar 9) aNil)))) (gNm 10)) (sSeq (sAsg (eIfM (tBl (e2 gEq (eVar 10) (eAs gLstD aNil))) (eC .non) (eAs gMinT (aCons (eLc (iSeq (eVar 10)) (gNm 14) (tBl (e2 gEq (eAs gLen (aCons (eVar 14) aNil)) (eAs gMinL (aCons (eLc (iSeq (eVar 10)) (gNm 15) tYesM (eAs gLen (aCons (eVar 15) aNil)) [15]) aNil)))) (eVar 14) [14]) aNil))) (gNm 11)) (sIf (tBl (e2 gNe (eAs gRepr (aCons (eAs gLstD (aCons (eCallP f_way_up (aCons (eVar 5) (aCons (eVar 8) (aCons (eVar 9) aNil)))) (aCons (eCallK0 f_way_up [2, 1, 0] (aCons (eVar 9) (aCons (eVar 8) (aCons (eVar 4) aNil)))) aNil))) aNil)) (eAs gRepr (aCons (eAs gLstD (aCons (eVar 11) (aCons (eVar 11) aNil))) aNil)))) (sRet (eC (.bl false))) sNext))))))
def m_law_b3 : SM := (sIf (tBl (e2 gNe (eHrd f__law_heard (eCallV 13 [("elders", 2, f_elders)] (aCons (eVar 4) (aCons (eVar 12) aNil)))) (eAs gTupD (aCons (eC (.str "object")) (aCons (eAs gRepr (aCons (eVar 12) aNil)) (aCons (eC (.bl true)) aNil)))))) (sRet (eC (.bl false))) sNext)
def m_law_b4 : SM := (sSeq (sAsg (eCallM f__law_box (aCons (eVar 0) (aCons (eVar 1) aNil))) (gNm 2)) (sSeq (sAsg (eCallM f__law_web (aCons (eVar 2) aNil)) (gSeq 2 (gsCons (gNm 3) (gsCons (gNm 4) gsNil)))) (sSeq (sFrz 3) (sSeq (sAsg eNewD (gNm 5)) (sSeq (sFor (iSeq (eVar 3)) (gNm 6) m_law_b1) (sSeq (sFor (iRange1 (aCons (eC (.int 4)) aNil)) (gNm 7) m_law_b2) (sSeq (sAsg (eCallM f__law_pick (aCons (eVar 2) (aCons (eAs gLstD (aCons (eC (.int 901)) (aCons (e2 Kw.gSub (eC (.int 0)) (eC (.int 1))) (aCons (eC .non) aNil)))) aNil))) (gNm 12)) (sSeq (sFor (iSeq (eAs gTupD (aCons (eC (.glb "elders")) aNil))) (gNm 13) m_law_b3) (sSeq (sIf (tBl (e2 gNe (eHrd f__law_heard (eCallP f_common_elders (aCons (eVar 4) (aCons (eVar 12) (aCons (e2 gIx (eVar 3) (eC (.int 0))) aNil))))) (eAs gTupD (aCons (eC (.str "object")) (aCons (eAs gRepr (aCons (eVar 12) aNil)) (aCons (eC (.bl true)) aNil)))))) (sRet (eC (.bl false))) sNext) (sSeq (sIf (tBl (e2 gNe (eHrd f__law_heard (eCallP f_nearest_common (aCons (eVar 4) (aCons (e2 gIx (eVar 3) (eC (.int 0))) (aCons (eVar 12) aNil))))) (eAs gTupD (aCons (eC (.str "object")) (aCons (eAs gRepr (aCons (eVar 12) aNil)) (aCons (eC (.bl true)) aNil)))))) (sRet (eC (.bl false))) sNext) (sSeq (sIf (tBl (e2 gNe (eHrd f__law_heard (eCallP f_way_up (aCons (eVar 4) (aCons (eVar 12) (aCons (e2 gIx (eVar 3) (eC (.int 0))) aNil))))) (eAs gTupD (aCons (eC (.str "object")) (aCons (eAs gRepr (aCons (eVar 12) aNil)) (aCons (eC (.bl true)) aNil)))))) (sRet (eC (.bl false))) sNext) (sIf (tBl (e2 gNeDD (eVar 5) (eAsM gNewDP (aCons (eLc (iSeq (eVar 3)) (gNm 6) tYesM (eAs gTupD (aCons (eVar 6) (aCons (eAs gList (aCons (e2 gIxD (eVar 4) (eVar 6)) aNil)) aNil))) [6]) aNil)))) (sRet (eC (.bl false))) sNext))))))))))))
def m_law : SM := (sSeq (sFor (iRange1 (aCons (eC (.int 2)) aNil)) (gNm 1) m_law_b4) (sRet (eC (.bl true))))
def f_law : FM := bodyM 16 m_law
end K61
set_option Elab.async false
set_option linter.all false
set_option maxRecDepth 100000
set_option maxHeartbeats 2000000
namespace K61
open PySem PySem.Spec PyProof.Rows L2 Kw
def top (i : Nat) : Stmt := PySem.Challenge.pw_keptwhole_k61_whole_nearest_common_elder.main.body.getD i (.Pass ⟨0, 0, 0, 0⟩)
section
variable {P : Program} {w : World} {K : PySem.W.Frag} {mg : Str → Option Value} {base : Heap} {T : List (Addr × Str)} {f : Addr} {fd : FuncData}
abbrev s_need_there : Stmt := top 3
abbrev N_need_there : List Str := ["parents", "name"]
theorem sc_need_there : FnScope N_need_there ["parents", "name"] (defScope s_need_there) := ⟨rfl, rfl, rfl, by decide +kernel, rfl, by decide +kernel, by decide +kernel⟩
theorem ok_need_there {CA_NoObject IA_NoObject : Addr} (F : FnP K "need_there" s_need_there f fd) (gm : mg "need_there" = some (.ref f)) (E_NoObject : ErrD P K mg "NoObject" "name" "no such object" CA_NoObject IA_NoObject) : CalD P w K mg base T "need_there" s_need_there 2 ["parents", "name"] f_need_there :=
  CalD.mk' F gm (fun _ _ _ _ _ _ us hl => match us, hl with | [_, _], _ => rfl) (fnG_of F sc_need_there rfl fun cdv A outer s H E hr hgd tk =>
    have sc := sc_need_there
    (pss_cons' (ps_if' (pt_ninN (u65 hr) (by with_unfolding_all rfl) (pv' 1) (pv' 0)) (pss_one' (ps_raiseS E_NoObject.sup rfl tk (hr.mono (by decide)) rfl (pv' 1))) pss_nil') (pss_one' (ps_ret' (pv' 1)))))
abbrev s_elders : Stmt := top 4
abbrev N_elders : List Str := ["parents", "name", "found", "waiting", "parent"]
theorem sc_elders : FnScope N_elders ["parents", "name"] (defScope s_elders) := ⟨rfl, rfl, rfl, by decide +kernel, rfl, by decide +kernel, by decide +kernel⟩
theorem ok_elders (F : FnP K "elders" s_elders f fd) (gm : mg "elders" = some (.ref f)) (b_len : mg "len" = none) (b_tuple : mg "tuple" = none) (b_sorted : mg "sorted" = none) (b_list : mg "list" = none) (C_need_there : CalD P w K mg base T "need_there" s_need_there 2 ["parents", "name"] f_need_there) : CalD P w K mg base T "elders" s_elders 3 ["parents", "name"] f_elders :=
  CalD.mk' F gm (fun _ _ _ _ _ _ us hl => match us, hl with | [_, _], _ => rfl) (fnG_of F sc_elders rfl fun cdv A outer s H E hr hgd tk =>
    have sc := sc_elders
    (pss_cons' (ps_set' (i := 2) sc.nd rfl (by first | exact Or.inl rfl | exact Or.inr rfl) (pe_dispN (pe_P C_need_there (passT tk) hr (by decide) hgd rfl (pa_cons' (pv' 0) (pa_cons' (pv' 1) pa_nil')) (aCons_len (aCons_len aNil_len)) rfl) (pe_C' pe_bl fun _ => .bl _))) (pss_cons' (ps_set' (i := 3) sc.nd rfl (by first | exact Or.inl rfl | exact Or.inr rfl) (pe_newL (pa_cons' (pv' 1) pa_nil'))) (pss_cons' (ps_while' (passes_of rfl) (pt_gt' (pe_len' rfl b_len (pa_cons' (pv' 3) pa_nil')) (pe_C' pe_int fun _ => .int _)) (pss_one' (ps_for' (passes_of rfl) rfl (pi_seq' (pe_ixD (u1 hr) (fun _ _ => rfl) (pv' 0) (pe_pop0' (pv' 3)))) (pg_name' (i := 4) sc.nd rfl (by first | exact Or.inl rfl | exact Or.inr rfl)) (pss_one' (ps_if' (pt_ninDc (u65 hr) (by with_unfolding_all rfl) (pe_P C_need_there (passT tk) hr (by decide) hgd rfl (pa_cons' (pv' 0) (pa_cons' (pv' 4) pa_nil')) (aCons_len (aCons_len aNil_len)) rfl) (pv' 2)) (pss_cons' (ps_asg' (pe_C' pe_bl fun _ => .bl _) (pg_subD (fun _ _ ho hi => pg_sub ho hi (pset_or set_list (set_dict (u1 hr)))) (pv' 2) (pv' 4))) (pss_one' (ps_expr' (pe_append' (pv' 3) (pa_cons' (pv' 4) pa_nil'))))) pss_nil'))))) (pss_one' (ps_ret' (pe_tuple' rfl b_tuple (pa_cons' (pe_srt rfl rfl b_sorted (pa_cons' (pe_listK rfl rfl b_list (pa_cons' (pv' 2) pa_nil')) pa_nil')) pa_nil'))))))))
abbrev s_common_elders : Stmt := top 5
abbrev N_common_elders : List Str := ["parents", "one", "other", "ours", "there", "name"]
theorem sc_common_elders : FnScope N_common_elders ["parents", "one", "other"] (defScope s_common_elders) := ⟨rfl, rfl, rfl, by decide +kernel, rfl, by decide +kernel, by decide +kernel⟩
theorem ok_common_elders (F : FnP K "common_elders" s_common_elders f fd) (gm : mg "common_elders" = some (.ref f)) (b_tuple : mg "tuple" = none) (C_elders : CalD P w K mg base T "elders" s_elders 3 ["parents", "name"] f_elders) : CalD P w K mg base T "common_elders" s_common_elders 4 ["parents", "one", "other"] f_common_elders :=
  CalD.mk' F gm (fun _ _ _ _ _ _ us hl => match us, hl with | [_, _, _], _ => rfl) (fnG_of F sc_common_elders rfl fun cdv A outer s H E hr hgd tk =>
    have sc := sc_common_elders
    (pss_cons' (ps_set' (i := 3) sc.nd rfl (by first | exact Or.inl rfl | exact Or.inr rfl) (pe_P C_elders (passT tk) hr (by decide) hgd rfl (pa_cons' (pv' 0) (pa_cons' (pv' 1) pa_nil')) (aCons_len (aCons_len aNil_len)) rfl)) (pss_cons' (ps_set' (i := 4) sc.nd rfl (by first | exact Or.inl rfl | exact Or.inr rfl) (pe_dcK (own := [("name", 5)]) rfl sc.nd (pi_seq' (pe_P C_elders (passT tk) hr (by decide) hgd rfl (pa_cons' (pv' 0) (pa_cons' (pv' 2) pa_nil')) (aCons_len (aCons_len aNil_len)) rfl)) (blkOk_by (N := N_common_elders) (sc := defScope s_common_elders) (own := [("name", 5)]) (by decide +kernel)) (nmTg (by decide)) (fun _ _ _ _ _ => (pg_name (i := 5) sc.nd rfl (by first | exact Or.inl rfl | exact Or.inr rfl))) (fun _ _ _ _ _ => pts_nil') (fun _ _ _ _ _ => (pv' 5)) (fun _ _ _ _ _ => (pe_C' pe_bl fun _ => .bl _)))) (pss_one' (ps_ret' (pe_tuple' rfl b_tuple (pa_cons' (pe_lc' (own := [("name", 5)]) rfl sc.nd (pi_seq' (pv' 3)) (blkOk_by (N := N_common_elders) (sc := defScope s_common_elders) (own := [("name", 5)]) (by decide +kernel)) (nmTg (by decide)) (fun _ _ _ _ _ => (pg_name (i := 5) sc.nd rfl (by first | exact Or.inl rfl | exact Or.inr rfl))) (fun _ _ _ _ _ => (pts_one' (pt_inDc (u65 hr) (by with_unfolding_all rfl) (pv' 5) (pv' 4)))) (fun _ _ _ _ _ => (pv' 5))) pa_nil')))))))
abbrev s_nearest_common : Stmt := top 6
abbrev N_nearest_common : List Str := ["parents", "one", "other", "common", "far", "name", "parent", "elder"]
theorem sc_nearest_common : FnScope N_nearest_common ["parents", "one", "other"] (defScope s_nearest_common) := ⟨rfl, rfl, rfl, by decide +kernel, rfl, by decide +kernel, by decide +kernel⟩
theorem ok_nearest_common (F : FnP K "nearest_common" s_nearest_common f fd) (gm : mg "nearest_common" = some (.ref f)) (b_tuple : mg "tuple" = none) (C_common_elders : CalD P w K mg base T "common_elders" s_common_elders 4 ["parents", "one", "other"] f_common_elders) (C_elders : CalD P w K mg base T "elders" s_elders 3 ["parents", "name"] f_elders) : CalD P w K mg base T "nearest_common" s_nearest_common 5 ["parents", "one", "other"] f_nearest_common :=
  CalD.mk' F gm (fun _ _ _ _ _ _ us hl => match us, hl with | [_, _, _], _ => rfl) (fnG_of F sc_nearest_common rfl fun cdv A outer s H E hr hgd tk =>
    have sc := sc_nearest_common
    (pss_cons' (ps_set' (i := 3) sc.nd rfl (by first | exact Or.inl rfl | exact Or.inr rfl) (pe_P C_common_elders (passT tk) hr (by decide) hgd rfl (pa_cons' (pv' 0) (pa_cons' (pv' 1) (pa_cons' (pv' 2) pa_nil'))) (aCons_len (aCons_len (aCons_len aNil_len))) rfl)) (pss_cons' (ps_set' (i := 4) sc.nd rfl (by first | exact Or.inl rfl | exact Or.inr rfl) pe_newD) (pss_cons' (ps_for' (passes_of rfl) rfl (pi_seq' (pv' 3)) (pg_name' (i := 5) sc.nd rfl (by first | exact Or.inl rfl | exact Or.inr rfl)) (pss_one' (ps_expr' (pe_upd (pv' 4) (pe_dc2K (own := [("parent", 6), ("elder", 7)]) rfl sc.nd (pi_seq' (pe_ixD (u1 hr) (fun _ _ => rfl) (pv' 0) (pv' 5))) (blkOk_by (N := N_nearest_common) (sc := defScope s_nearest_common) (own := [("parent", 6), ("elder", 7)]) (by decide +kernel)) (vs1 := [7]) (by decide) (nmTg (by decide)) (nmTg (by decide)) (fun _ _ _ _ _ => (pg_name (i := 6) sc.nd rfl (by first | exact Or.inl rfl | exact Or.inr rfl))) (fun _ _ _ _ _ => pts_nil') (fun _ _ _ _ _ => (pi_seq' (pe_P C_elders pass0 hr (by decide) hgd rfl (pa_cons' (pv' 0) (pa_cons' (pv' 6) pa_nil')) (aCons_len (aCons_len aNil_len)) rfl))) (fun _ _ _ _ _ => (pg_name (i := 7) sc.nd rfl (by first | exact Or.inl rfl | exact Or.inr rfl))) (fun _ _ _ _ _ => pts_nil') (fun _ _ _ _ _ => (pv' 7)) (fun _ _ _ _ _ => (pe_C' pe_bl fun _ => .bl _))))))) (pss_one' (ps_ret' (pe_tuple' rfl b_tuple (pa_cons' (pe_lc' (own := [("name", 5)]) rfl sc.nd (pi_seq' (pv' 3)) (blkOk_by (N := N_nearest_common) (sc := defScope s_nearest_common) (own := [("name", 5)]) (by decide +kernel)) (nmTg (by decide)) (fun _ _ _ _ _ => (pg_name (i := 5) sc.nd rfl (by first | exact Or.inl rfl | exact Or.inr rfl))) (fun _ _ _ _ _ => (pts_one' (pt_ninDc (u65 hr) (by with_unfolding_all rfl) (pv' 5) (pv' 4)))) (fun _ _ _ _ _ => (pv' 5))) pa_nil'))))))))
abbrev s_way_up : Stmt := top 7
abbrev N_way_up : List Str := ["parents", "name", "elder", "found", "waiting", "at", "here", "parent"]
theorem sc_way_up : FnScope N_way_up ["parents", "name", "elder"] (defScope s_way_up) := ⟨rfl, rfl, rfl, by decide +kernel, rfl, by decide +kernel, by decide +kernel⟩
theorem ok_way_up (F : FnP K "way_up" s_way_up f fd) (gm : mg "way_up" = some (.ref f)) (b_len : mg "len" = none) (b_sorted : mg "sorted" = none) (b_list : mg "list" = none) (C_need_there : CalD P w K mg base T "need_there" s_need_there 2 ["parents", "name"] f_need_there) : CalD P w K mg base T "way_up" s_way_up 3 ["parents", "name", "elder"] f_way_up :=
  CalD.mk' F gm (fun _ _ _ _ _ _ us hl => match us, hl with | [_, _, _], _ => rfl) (fnG_of F sc_way_up rfl fun cdv A outer s H E hr hgd tk =>
    have sc := sc_way_up
    (pss_cons' (ps_set' (i := 3) sc.nd rfl (by first | exact Or.inl rfl | exact Or.inr rfl) (pe_dispN (pe_P C_need_there (passT tk) hr (by decide) hgd rfl (pa_cons' (pv' 0) (pa_cons' (pv' 1) pa_nil')) (aCons_len (aCons_len aNil_len)) rfl) (pe_tup' (pa_cons' (pv' 1) pa_nil')))) (pss_cons' (ps_expr' (pe_P C_need_there (passT tk) hr (by decide) hgd rfl (pa_cons' (pv' 0) (pa_cons' (pv' 2) pa_nil')) (aCons_len (aCons_len aNil_len)) rfl)) (pss_cons' (ps_set' (i := 4) sc.nd rfl (by first | exact Or.inl rfl | exact Or.inr rfl) (pe_newL (pa_cons' (pv' 1) pa_nil'))) (pss_cons' (ps_set' (i := 5) sc.nd rfl (by first | exact Or.inl rfl | exact Or.inr rfl) (pe_C' pe_int fun _ => .int _)) (pss_cons' (ps_while' (passes_of rfl) (PW.pt (pw_and' (pt_lt' (pv' 5) (pe_len' rfl b_len (pa_cons' (pv' 4) pa_nil'))) (pw_and1' (pt_ninDc (u65 hr) (by with_unfolding_all rfl) (pv' 2) (pv' 3))))) (pss_cons' (ps_set' (i := 6) sc.nd rfl (by first | exact Or.inl rfl | exact Or.inr rfl) (pe_ix' (fun _ _ => rfl) (pv' 4) (pv' 5))) (pss_cons' (ps_aug' (i := 5) (iop_add.or iop_catA) (fun _ _ _ _ => addJ_r) sc.nd rfl (by first | exact Or.inl rfl | exact Or.inr rfl) (pe_C' pe_int fun _ => .int _)) (pss_one' (ps_for' (passes_of rfl) rfl (pi_seq' (pe_srt rfl rfl b_sorted (pa_cons' (pe_list' rfl b_list (pa_cons' (pe_ixD (u1 hr) (fun _ _ => rfl) (pv' 0) (pv' 6)) pa_nil')) pa_nil'))) (pg_name' (i := 7) sc.nd rfl (by first | exact Or.inl rfl | exact Or.inr rfl)) (pss_one' (ps_if' (pt_ninDc (u65 hr) (by with_unfolding_all rfl) (pe_P C_need_there (passT tk) hr (by decide) hgd rfl (pa_cons' (pv' 0) (pa_cons' (pv' 7) pa_nil')) (aCons_len (aCons_len aNil_len)) rfl) (pv' 3)) (pss_cons' (ps_asg' (pe_add' (pe_ixD (u1 hr) (fun _ _ => rfl) (pv' 3) (pv' 6)) (pe_tup' (pa_cons' (pv' 7) pa_nil'))) (pg_subD (fun _ _ ho hi => pg_sub ho hi (pset_or set_list (set_dict (u1 hr)))) (pv' 3) (pv' 7))) (pss_one' (ps_expr' (pe_append' (pv' 4) (pa_cons' (pv' 7) pa_nil'))))) pss_nil'))))))) (pss_one' (ps_ret' (pe_get1 (u1 hr) (pv' 3) (pv' 2))))))))))
abbrev s__law_box : Stmt := top 9
abbrev N__law_box : List Str := ["_law_script", "_law_k", "_law_cell", "_law_great"]
theorem sc__law_box : FnScope N__law_box ["_law_script", "_law_k"] (defScope s__law_box) := ⟨rfl, rfl, rfl, by decide +kernel, rfl, by decide +kernel, by decide +kernel⟩
theorem ok__law_box (F : FnP K "_law_box" s__law_box f fd) (gm : mg "_law_box" = some (.ref f)) (b_len : mg "len" = none) (b_abs : mg "abs" = none) (b_int : mg "int" = none) : CalD P w K mg base T "_law_box" s__law_box 1 ["_law_script", "_law_k"] f__law_box :=
  CalD.mk' F gm (fun _ _ _ _ _ _ us hl => match us, hl with | [_, _], _ => rfl) (fnG_of F sc__law_box rfl fun cdv A outer s H E hr hgd tk =>
    have sc := sc__law_box
    (pss_cons' (ps_set' (i := 2) sc.nd rfl (by first | exact Or.inl rfl | exact Or.inr rfl) (pe_add' (pe_mul' (pe_C' pe_int fun _ => .int _) (pv' 1)) (pe_C' pe_int fun _ => .int _))) (pss_cons' (ps_if' (pt_lt' (pv' 1) (pe_len' rfl b_len (pa_cons' (pv' 0) pa_nil'))) (pss_one' (ps_set' (i := 2) sc.nd rfl (by first | exact Or.inl rfl | exact Or.inr rfl) (pe_abs' rfl b_abs (pa_cons' (pe_int' rfl b_int (pa_cons' (pe_ix' (fun _ _ => rfl) (pv' 0) (pv' 1)) pa_nil')) pa_nil')))) (pss_one' (ps_if' (pt_gt' (pe_len' rfl b_len (pa_cons' (pv' 0) pa_nil')) (pe_C' pe_int fun _ => .int _)) (pss_one' (ps_set' (i := 2) sc.nd rfl (by first | exact Or.inl rfl | exact Or.inr rfl) (pe_add' (pv' 2) (pe_mul' (pe_mod' (pe_int' rfl b_int (pa_cons' (pe_abs' rfl b_abs (pa_cons' (pe_int' rfl b_int (pa_cons' (pe_ix' (fun _ _ => rfl) (pv' 0) (pe_mod' (pe_int' rfl b_int (pa_cons' (pv' 1) pa_nil')) (pe_len' rfl b_len (pa_cons' (pv' 0) pa_nil')))) pa_nil')) pa_nil')) pa_nil')) (pe_C' pe_int fun _ => .int _)) (pe_C' pe_int fun _ => .int _))))) pss_nil'))) (pss_cons' (ps_set' (i := 3) sc.nd rfl (by first | exact Or.inl rfl | exact Or.inr rfl) (pe_ifExp' (pt_ge' (pv' 2) (pe_pow' (pe_C' pe_int fun _ => .int _) (pe_C' pe_int fun _ => .int _))) (pv' 2) (pe_C' pe_int fun _ => .int _))) (pss_one' (ps_ret' (pe_newL (pa_cons' (pv' 3) (pa_cons' (pe_add' (pe_mod' (pe_int' rfl b_int (pa_cons' (pe_add' (pe_mul' (pe_mod' (pe_int' rfl b_int (pa_cons' (pv' 2) pa_nil')) (pe_C' pe_int fun _ => .int _)) (pe_C' pe_int fun _ => .int _)) (pe_mul' (pe_C' pe_int fun _ => .int _) (pv' 1))) pa_nil')) (pe_C' pe_int fun _ => .int _)) (pe_C' pe_int fun _ => .int _)) pa_nil')))))))))
abbrev s__law_take : Stmt := top 10
abbrev N__law_take : List Str := ["_law_box_here", "_law_many", "_law_digit", "_law_raw"]
theorem sc__law_take : FnScope N__law_take ["_law_box_here", "_law_many"] (defScope s__law_take) := ⟨rfl, rfl, rfl, by decide +kernel, rfl, by decide +kernel, by decide +kernel⟩
theorem ok__law_take (F : FnP K "_law_take" s__law_take f fd) (gm : mg "_law_take" = some (.ref f)) (b_int : mg "int" = none) : CalD P w K mg base T "_law_take" s__law_take 1 ["_law_box_here", "_law_many"] f__law_take :=
  CalD.mk' F gm (fun _ _ _ _ _ _ us hl => match us, hl with | [_, _], _ => rfl) (fnG_of F sc__law_take rfl fun cdv A outer s H E hr hgd tk =>
    have sc := sc__law_take
    (pss_cons' (ps_if' (pt_gt' (pe_ix' (fun _ _ => rfl) (pv' 0) (pe_C' pe_int fun _ => .int _)) (pe_C' pe_int fun _ => .int _)) (pss_cons' (ps_set' (i := 2) sc.nd rfl (by first | exact Or.inl rfl | exact Or.inr rfl) (pe_mod' (pe_int' rfl b_int (pa_cons' (pe_ix' (fun _ _ => rfl) (pv' 0) (pe_C' pe_int fun _ => .int _)) pa_nil')) (pv' 1))) (pss_cons' (ps_asg' (pe_fdv' (pe_ix' (fun _ _ => rfl) (pv' 0) (pe_C' pe_int fun _ => .int _)) (pv' 1)) (pg_sub' (fun _ _ ho hi => pg_sub ho hi set_list) (pv' 0) (pe_C' pe_int fun _ => .int _))) (pss_one' (ps_ret' (pv' 2))))) pss_nil') (pss_cons' (ps_set' (i := 3) sc.nd rfl (by first | exact Or.inl rfl | exact Or.inr rfl) (pe_mod' (pe_int' rfl b_int (pa_cons' (pe_add' (pe_mul' (pe_ix' (fun _ _ => rfl) (pv' 0) (pe_C' pe_int fun _ => .int _)) (pe_C' pe_int fun _ => .int _)) (pe_C' pe_int fun _ => .int _)) pa_nil')) (pe_C' pe_int fun _ => .int _))) (pss_cons' (ps_asg' (pe_add' (pe_mod' (pe_int' rfl b_int (pa_cons' (pe_add' (pe_mul' (pv' 3) (pe_C' pe_int fun _ => .int _)) (pe_C' pe_int fun _ => .int _)) pa_nil')) (pe_C' pe_int fun _ => .int _)) (pe_C' pe_int fun _ => .int _)) (pg_sub' (fun _ _ ho hi => pg_sub ho hi set_list) (pv' 0) (pe_C' pe_int fun _ => .int _))) (pss_one' (ps_ret' (pe_mod' (pe_int' rfl b_int (pa_cons' (pe_fdv' (pe_add' (pe_mul' (pv' 3) (pe_C' pe_int fun _ => .int _)) (pe_ix' (fun _ _ => rfl) (pv' 0) (pe_C' pe_int fun _ => .int _))) (pe_C' pe_int fun _ => .int _)) pa_nil')) (pv' 1))))))))
abbrev s__law_pick : Stmt := top 11
abbrev N__law_pick : List Str := ["_law_box_here", "_law_some"]
theorem sc__law_pick : FnScope N__law_pick ["_law_box_here", "_law_some"] (defScope s__law_pick) := ⟨rfl, rfl, rfl, by decide +kernel, rfl, by decide +kernel, by decide +kernel⟩
theorem ok__law_pick (F : FnP K "_law_pick" s__law_pick f fd) (gm : mg "_law_pick" = some (.ref f)) (b_len : mg "len" = none) (C__law_take : CalD P w K mg base T "_law_take" s__law_take 1 ["_law_box_here", "_law_many"] f__law_take) : CalD P w K mg base T "_law_pick" s__law_pick 2 ["_law_box_here", "_law_some"] f__law_pick :=
  CalD.mk' F gm (fun _ _ _ _ _ _ us hl => match us, hl with | [_, _], _ => rfl) (fnG_of F sc__law_pick rfl fun cdv A outer s H E hr hgd tk =>
    have sc := sc__law_pick
    (pss_one' (ps_ret' (pe_ix' (fun _ _ => rfl) (pv' 1) (pe_M C__law_take (passT tk) hr (by decide) hgd rfl (pa_cons' (pv' 0) (pa_cons' (pe_len' rfl b_len (pa_cons' (pv' 1) pa_nil')) pa_nil')) (aCons_len (aCons_len aNil_len)) rfl)))))
abbrev s__law_web : Stmt := top 12
abbrev N__law_web : List Str := ["_law_box_here", "_law_names", "_law_parents", "_law_turn", "_law_name", "_law_some", "_law_more", "_law_late", "_law_at", "_law_one"]
theorem sc__law_web : FnScope N__law_web ["_law_box_here"] (defScope s__law_web) := ⟨rfl, rfl, rfl, by decide +kernel, rfl, by decide +kernel, by decide +kernel⟩
theorem ok__law_web (F : FnP K "_law_web" s__law_web f fd) (gm : mg "_law_web" = some (.ref f)) (b_range : mg "range" = none) (b_max : mg "max" = none) (b_len : mg "len" = none) (b_tuple : mg "tuple" = none) (b_enumerate : mg "enumerate" = none) (C__law_take : CalD P w K mg base T "_law_take" s__law_take 1 ["_law_box_here", "_law_many"] f__law_take) (C__law_pick : CalD P w K mg base T "_law_pick" s__law_pick 2 ["_law_box_here", "_law_some"] f__law_pick) : CalD P w K mg base T "_law_web" s__law_web 3 ["_law_box_here"] f__law_web :=
  CalD.mk' F gm (fun _ _ _ _ _ _ us hl => match us, hl with | [_], _ => rfl) (fnG_of F sc__law_web rfl fun cdv A outer s H E hr hgd tk =>
    have sc := sc__law_web
    (pss_cons' (ps_par' (i := 1) (j := 2) rfl sc.nd rfl rfl (by decide) rfl rfl (pa_cons' (pe_newL pa_nil') (pa_cons' pe_newD pa_nil')) (by with_unfolding_all rfl)) (pss_cons' (ps_for' (passes_of rfl) rfl (pi_range1' rfl b_range (pa_cons' (pe_add' (pe_C' pe_int fun _ => .int _) (pe_M C__law_take (passT tk) hr (by decide) hgd rfl (pa_cons' (pv' 0) (pa_cons' (pe_C' pe_int fun _ => .int _) pa_nil')) (aCons_len (aCons_len aNil_len)) rfl)) pa_nil')) (pg_name' (i := 3) sc.nd rfl (by first | exact Or.inl rfl | exact Or.inr rfl)) (pss_cons' (ps_set' (i := 4) sc.nd rfl (by first | exact Or.inl rfl | exact Or.inr rfl) (pe_M C__law_take (passT tk) hr (by decide) hgd rfl (pa_cons' (pv' 0) (pa_cons' (pe_C' pe_int fun _ => .int _) pa_nil')) (aCons_len (aCons_len aNil_len)) rfl)) (pss_cons' (ps_if' (pt_inDc (u65 hr) (by with_unfolding_all rfl) (pv' 4) (pv' 2)) (pss_one' ps_cont') pss_nil') (pss_cons' (ps_set' (i := 5) sc.nd rfl (by first | exact Or.inl rfl | exact Or.inr rfl) (pe_newL pa_nil')) (pss_cons' (ps_for' (passes_of rfl) rfl (pi_range1' rfl b_range (pa_cons' (pe_M C__law_pick (passT tk) hr (by decide) hgd rfl (pa_cons' (pv' 0) (pa_cons' (pe_lst' (pa_cons' (pe_C' pe_int fun _ => .int _) (pa_cons' (pe_C' pe_int fun _ => .int _) (pa_cons' (pe_C' pe_int fun _ => .int _) (pa_cons' (pe_C' pe_int fun _ => .int _) (pa_cons' (pe_C' pe_int fun _ => .int _) (pa_cons' (pe_C' pe_int fun _ => .int _) pa_nil'))))))) pa_nil')) (aCons_len (aCons_len aNil_len)) rfl) pa_nil')) (pg_name' (i := 6) sc.nd rfl (by first | exact Or.inl rfl | exact Or.inr rfl)) (pss_one' (ps_if' (pt_ne' (u64 hr) (pv' 1) (pe_lst' pa_nil')) (pss_cons' (ps_set' (i := 7) sc.nd rfl (by first | exact Or.inl rfl | exact Or.inr rfl) (pe_slice' (pv' 1) (po_some' (pe_max2' rfl rfl b_max (pa_cons' (pe_C' pe_int fun _ => .int _) (pa_cons' (pe_sub' (pe_len' rfl b_len (pa_cons' (pv' 1) pa_nil')) (pe_C' pe_int fun _ => .int _)) pa_nil')))) po_none')) (pss_one' (ps_expr' (pe_append' (pv' 5) (pa_cons' (pe_ifExp' (pt_gt' (pe_M C__law_take (passT tk) hr (by decide) hgd rfl (pa_cons' (pv' 0) (pa_cons' (pe_C' pe_int fun _ => .int _) pa_nil')) (aCons_len (aCons_len aNil_len)) rfl) (pe_C' pe_int fun _ => .int _)) (pe_M C__law_pick (passT tk) hr (by decide) hgd rfl (pa_cons' (pv' 0) (pa_cons' (pv' 7) pa_nil')) (aCons_len (aCons_len aNil_len)) rfl) (pe_M C__law_pick (passT tk) hr (by decide) hgd rfl (pa_cons' (pv' 0) (pa_cons' (pv' 1) pa_nil')) (aCons_len (aCons_len aNil_len)) rfl)) pa_nil'))))) pss_nil'))) (pss_cons' (ps_asg' (pe_tuple' rfl b_tuple (pa_cons' (pe_lcN (own := [("_law_at", 8), ("_law_one", 9)]) rfl sc.nd (pi_nEnu rfl b_enumerate (pa_cons' (pv' 5) pa_nil')) (blkOk_by (N := N__law_web) (sc := defScope s__law_web) (own := [("_law_at", 8), ("_law_one", 9)]) (by decide +kernel)) (nmTg_seq (nmTgs_consG (nmTg (by decide)) (nmTgs_consG (nmTg (by decide)) nmTgs_nil))) (fun _ _ _ _ _ => (PGor (pg_tup rfl (pgs_cons (pg_name (i := 8) sc.nd rfl (by first | exact Or.inl rfl | exact Or.inr rfl)) (pgs_cons (pg_name (i := 9) sc.nd rfl (by first | exact Or.inl rfl | exact Or.inr rfl)) pgs_nil))) (pg_unl rfl (pgs_cons (pg_name (i := 8) sc.nd rfl (by first | exact Or.inl rfl | exact Or.inr rfl)) (pgs_cons (pg_name (i := 9) sc.nd rfl (by first | exact Or.inl rfl | exact Or.inr rfl)) pgs_nil))))) (fun _ _ _ _ _ => (pts_one' (pt_nin' (u65 hr) (by with_unfolding_all rfl) (pv' 9) (pe_slice' (pv' 5) po_none' (po_some' (pv' 8)))))) (fun _ _ _ _ _ => (pv' 9))) pa_nil')) (pg_subD (fun _ _ ho hi => pg_sub ho hi (pset_or set_list (set_dict (u1 hr)))) (pv' 2) (pv' 4))) (pss_one' (ps_expr' (pe_append' (pv' 1) (pa_cons' (pv' 4) pa_nil')))))))))) (pss_one' (ps_ret' (pe_tup' (pa_cons' (pv' 1) (pa_cons' (pv' 2) pa_nil'))))))))
abbrev s__law_elders : Stmt := top 13
abbrev N__law_elders : List Str := ["_law_parents", "_law_name", "_law_found", "_law_turn", "_law_one", "_law_parent"]
theorem sc__law_elders : FnScope N__law_elders ["_law_parents", "_law_name"] (defScope s__law_elders) := ⟨rfl, rfl, rfl, by decide +kernel, rfl, by decide +kernel, by decide +kernel⟩
theorem ok__law_elders (F : FnP K "_law_elders" s__law_elders f fd) (gm : mg "_law_elders" = some (.ref f)) (b_range : mg "range" = none) (b_len : mg "len" = none) (b_list : mg "list" = none) (b_sorted : mg "sorted" = none) (b_set : mg "set" = none) : CalD P w K mg base T "_law_elders" s__law_elders 1 ["_law_parents", "_law_name"] f__law_elders :=
  CalD.mk' F gm (fun _ _ _ _ _ _ us hl => match us, hl with | [_, _], _ => rfl) (fnG_of F sc__law_elders rfl fun cdv A outer s H E hr hgd tk =>
    have sc := sc__law_elders
    (pss_cons' (ps_set' (i := 2) sc.nd rfl (by first | exact Or.inl rfl | exact Or.inr rfl) (pe_lst' (pa_cons' (pv' 1) pa_nil'))) (pss_cons' (ps_for' (passes_of rfl) rfl (pi_range1' rfl b_range (pa_cons' (pe_lenB' rfl b_len (pa_cons' (pv' 0) pa_nil')) pa_nil')) (pg_name' (i := 3) sc.nd rfl (by first | exact Or.inl rfl | exact Or.inr rfl)) (pss_one' (ps_for' (passes_of rfl) rfl (pi_seq' (pe_list' rfl b_list (pa_cons' (pv' 2) pa_nil'))) (pg_name' (i := 4) sc.nd rfl (by first | exact Or.inl rfl | exact Or.inr rfl)) (pss_one' (ps_set' (i := 2) sc.nd rfl (by first | exact Or.inl rfl | exact Or.inr rfl) (pe_add' (pv' 2) (pe_lc' (own := [("_law_parent", 5)]) rfl sc.nd (pi_seq' (pe_ixD (u1 hr) (fun _ _ => rfl) (pv' 0) (pv' 4))) (blkOk_by (N := N__law_elders) (sc := defScope s__law_elders) (own := [("_law_parent", 5)]) (by decide +kernel)) (nmTg (by decide)) (fun _ _ _ _ _ => (pg_name (i := 5) sc.nd rfl (by first | exact Or.inl rfl | exact Or.inr rfl))) (fun _ _ _ _ _ => (pts_one' (pt_nin' (u65 hr) (by with_unfolding_all rfl) (pv' 5) (pv' 2)))) (fun _ _ _ _ _ => (pv' 5))))))))) (pss_one' (ps_ret' (pe_srtSet rfl rfl b_sorted rfl b_set (pa_cons' (pv' 2) pa_nil')))))))
abbrev s__law_ways : Stmt := top 14
abbrev N__law_ways : List Str := ["_law_parents", "_law_name", "_law_elder", "_law_found", "_law_layer", "_law_turn", "_law_longer", "_law_way", "_law_parent"]
theorem sc__law_ways : FnScope N__law_ways ["_law_parents", "_law_name", "_law_elder"] (defScope s__law_ways) := ⟨rfl, rfl, rfl, by decide +kernel, rfl, by decide +kernel, by decide +kernel⟩
theorem ok__law_ways (F : FnP K "_law_ways" s__law_ways f fd) (gm : mg "_law_ways" = some (.ref f)) (b_range : mg "range" = none) (b_len : mg "len" = none) : CalD P w K mg base T "_law_ways" s__law_ways 1 ["_law_parents", "_law_name", "_law_elder"] f__law_ways :=
  CalD.mk' F gm (fun _ _ _ _ _ _ us hl => match us, hl with | [_, _, _], _ => rfl) (fnG_of F sc__law_ways rfl fun cdv A outer s H E hr hgd tk =>
    have sc := sc__law_ways
    (pss_cons' (ps_par' (i := 3) (j := 4) rfl sc.nd rfl rfl (by decide) rfl rfl (pa_cons' (pe_lst' pa_nil') (pa_cons' (pe_lst' (pa_cons' (pe_tup' (pa_cons' (pv' 1) pa_nil')) pa_nil')) pa_nil')) (by with_unfolding_all rfl)) (pss_cons' (ps_for' (passes_of rfl) rfl (pi_range1' rfl b_range (pa_cons' (pe_add' (pe_lenB' rfl b_len (pa_cons' (pv' 0) pa_nil')) (pe_C' pe_int fun _ => .int _)) pa_nil')) (pg_name' (i := 5) sc.nd rfl (by first | exact Or.inl rfl | exact Or.inr rfl)) (pss_cons' (ps_set' (i := 3) sc.nd rfl (by first | exact Or.inl rfl | exact Or.inr rfl) (pe_add' (pv' 3) (pe_lc' (own := [("_law_way", 7)]) rfl sc.nd (pi_seq' (pv' 4)) (blkOk_by (N := N__law_ways) (sc := defScope s__law_ways) (own := [("_law_way", 7)]) (by decide +kernel)) (nmTg (by decide)) (fun _ _ _ _ _ => (pg_name (i := 7) sc.nd rfl (by first | exact Or.inl rfl | exact Or.inr rfl))) (fun _ _ _ _ _ => (pts_one' (pt_eq' (u64 hr) (pe_ix' (fun _ _ => rfl) (pv' 7) (pe_neg' (pe_C' pe_int fun _ => .int _))) (pv' 2)))) (fun _ _ _ _ _ => (pv' 7))))) (pss_cons' (ps_set' (i := 6) sc.nd rfl (by first | exact Or.inl rfl | exact Or.inr rfl) (pe_lst' pa_nil')) (pss_cons' (ps_for' (passes_of rfl) rfl (pi_seq' (pv' 4)) (pg_name' (i := 7) sc.nd rfl (by first | exact Or.inl rfl | exact Or.inr rfl)) (pss_one' (ps_set' (i := 6) sc.nd rfl (by first | exact Or.inl rfl | exact Or.inr rfl) (pe_add' (pv' 6) (pe_lc' (own := [("_law_parent", 8)]) rfl sc.nd (pi_seq' (pe_ixD (u1 hr) (fun _ _ => rfl) (pv' 0) (pe_ix' (fun _ _ => rfl) (pv' 7) (pe_neg' (pe_C' pe_int fun _ => .int _))))) (blkOk_by (N := N__law_ways) (sc := defScope s__law_ways) (own := [("_law_parent", 8)]) (by decide +kernel)) (nmTg (by decide)) (fun _ _ _ _ _ => (pg_name (i := 8) sc.nd rfl (by first | exact Or.inl rfl | exact Or.inr rfl))) (fun _ _ _ _ _ => pts_nil') (fun _ _ _ _ _ => (pe_add' (pv' 7) (pe_tup' (pa_cons' (pv' 8) pa_nil'))))))))) (pss_one' (ps_set' (i := 4) sc.nd rfl (by first | exact Or.inl rfl | exact Or.inr rfl) (pe_slice' (pv' 6) po_none' (po_some' (pe_C' pe_int fun _ => .int _))))))))) (pss_one' (ps_ret' (pv' 3))))))
abbrev s__law_heard : Stmt := top 15
abbrev N__law_heard : List Str := ["_law_ask", "fault"]
theorem sc__law_heard : FnScope N__law_heard ["_law_ask"] (defScope s__law_heard) := ⟨rfl, rfl, rfl, by decide +kernel, rfl, by decide +kernel, by decide +kernel⟩
theorem ok__law_heard {CA_NoObject IA_NoObject : Addr} (F : FnP K "_law_heard" s__law_heard f fd) (gm : mg "_law_heard" = some (.ref f)) (b_repr : mg "repr" = none) (b_isinstance : mg "isinstance" = none) (b_KeyError : mg "KeyError" = none) (E_NoObject : ErrD P K mg "NoObject" "name" "no such object" CA_NoObject IA_NoObject) (kb_NoObject_KeyError : PySem.W.kitOne K (.ref CA_NoObject) (.type "KeyError") = some true) (ext : TabOk K mg exTab) : HrdD P w K mg base T "_law_heard" s__law_heard "_law_ask" f__law_heard :=
  HrdD.mk' F gm sc__law_heard rfl (by first | exact Or.inl rfl | exact Or.inr (Or.inl rfl)) (fun _ _ _ _ _ _ us hl => match us, hl with | [_], _ => rfl) fun ask A outer s H cd lam w0 hr hgd C_ask =>
    have sc := sc__law_heard
    have tk := LamX.takes0
    (pss_one' (ps_tryU ext rfl rfl sc.nd tk (fun E pn xe tk po => (pss_one' (ps_ret' (pe_tup' (pa_cons' (pe_C' pe_str fun _ => .str _) (pa_cons' (C_ask _ _ _ _ _ tk) pa_nil')))))) (.cons rfl (by decide) E_NoObject.sup.gC (i := 1) rfl rfl (fun a oe cls d pn hz hd => (pss_one' (ps_ret' (pe_tup' (pa_cons' (pe_C' pe_str fun _ => .str _) (pa_cons' (pe_repr' hgd (u200m hr) rfl b_repr (pa_cons' (pe_fld E_NoObject.fld_ E_NoObject.sup.gC E_NoObject.sup.noN hz hd rfl (by first | exact Or.inl rfl | exact Or.inr (Or.inl rfl) | exact Or.inr (Or.inr rfl))) pa_nil')) (pa_cons' (pe_isXb E_NoObject.isx E_NoObject.sup.gC kb_NoObject_KeyError hz hd rfl (by first | exact Or.inl rfl | exact Or.inr (Or.inl rfl) | exact Or.inr (Or.inr rfl)) rfl b_isinstance (pe_bltn (v := .ty "KeyError") rfl b_KeyError (by decide +kernel) rfl)) pa_nil'))))))) .nil)))
abbrev s__law_pair_right : Stmt := top 16
abbrev N__law_pair_right : List Str := ["_law_parents", "_law_one", "_law_other", "_law_common", "_law_near", "_law_name", "_law_late"]
theorem sc__law_pair_right : FnScope N__law_pair_right ["_law_parents", "_law_one", "_law_other"] (defScope s__law_pair_right) := ⟨rfl, rfl, rfl, by decide +kernel, rfl, by decide +kernel, by decide +kernel⟩
theorem ok__law_pair_right (F : FnP K "_law_pair_right" s__law_pair_right f fd) (gm : mg "_law_pair_right" = some (.ref f)) (b_repr : mg "repr" = none) (b_tuple : mg "tuple" = none) (C__law_elders : CalD P w K mg base T "_law_elders" s__law_elders 1 ["_law_parents", "_law_name"] f__law_elders) (C_common_elders : CalD P w K mg base T "common_elders" s_common_elders 4 ["parents", "one", "other"] f_common_elders) (C_nearest_common : CalD P w K mg base T "nearest_common" s_nearest_common 5 ["parents", "one", "other"] f_nearest_common) : CalD P w K mg base T "_law_pair_right" s__law_pair_right 6 ["_law_parents", "_law_one", "_law_other"] f__law_pair_right :=
  CalD.mk' F gm (fun _ _ _ _ _ _ us hl => match us, hl with | [_, _, _], _ => rfl) (fnG_of F sc__law_pair_right rfl fun cdv A outer s H E hr hgd tk =>
    have sc := sc__law_pair_right
    (pss_cons' (ps_set' (i := 3) sc.nd rfl (by first | exact Or.inl rfl | exact Or.inr rfl) (pe_lc' (own := [("_law_name", 5)]) rfl sc.nd (pi_seq' (pe_P C__law_elders (passT tk) hr (by decide) hgd rfl (pa_cons' (pv' 0) (pa_cons' (pv' 1) pa_nil')) (aCons_len (aCons_len aNil_len)) rfl)) (blkOk_by (N := N__law_pair_right) (sc := defScope s__law_pair_right) (own := [("_law_name", 5)]) (by decide +kernel)) (nmTg (by decide)) (fun _ _ _ _ _ => (pg_name (i := 5) sc.nd rfl (by first | exact Or.inl rfl | exact Or.inr rfl))) (fun _ _ _ _ _ => (pts_one' (pt_in' (u65 hr) (by with_unfolding_all rfl) (pv' 5) (pe_P C__law_elders pass0 hr (by decide) hgd rfl (pa_cons' (pv' 0) (pa_cons' (pv' 2) pa_nil')) (aCons_len (aCons_len aNil_len)) rfl)))) (fun _ _ _ _ _ => (pv' 5)))) (pss_cons' (ps_set' (i := 4) sc.nd rfl (by first | exact Or.inl rfl | exact Or.inr rfl) (pe_lc' (own := [("_law_name", 5)]) rfl sc.nd (pi_seq' (pv' 3)) (blkOk_by (N := N__law_pair_right) (sc := defScope s__law_pair_right) (own := [("_law_name", 5)]) (by decide +kernel)) (nmTg (by decide)) (fun _ _ _ _ _ => (pg_name (i := 5) sc.nd rfl (by first | exact Or.inl rfl | exact Or.inr rfl))) (fun _ _ _ _ _ => (pts_one' (pt_eq' (u64 hr) (pe_lc' (own := [("_law_late", 6)]) rfl sc.nd (pi_seq' (pv' 3)) (blkOk_by (N := N__law_pair_right) (sc := _) (own := [("_law_late", 6)]) (by kernel_rfl)) (nmTg (by decide)) (fun _ _ _ _ _ => (pg_name (i := 6) sc.nd rfl (by first | exact Or.inl rfl | exact Or.inr rfl))) (fun _ _ _ _ _ => (pts_one' (PW.pt (pw_and' (pt_ne' (u64 hr) (pv' 6) (pv' 5)) (pw_and1' (pt_in' (u65 hr) (by with_unfolding_all rfl) (pv' 5) (pe_P C__law_elders pass0 hr (by decide) hgd rfl (pa_cons' (pv' 0) (pa_cons' (pv' 6) pa_nil')) (aCons_len (aCons_len aNil_len)) rfl))))))) (fun _ _ _ _ _ => (pv' 6))) (pe_lst' pa_nil')))) (fun _ _ _ _ _ => (pv' 5)))) (pss_cons' (ps_if' (pt_ne' (u64 hr) (pe_repr' hgd (u200 hr) rfl b_repr (pa_cons' (pe_lst' (pa_cons' (pe_P C_common_elders (passT tk) hr (by decide) hgd rfl (pa_cons' (pv' 0) (pa_cons' (pv' 1) (pa_cons' (pv' 2) pa_nil'))) (aCons_len (aCons_len (aCons_len aNil_len))) rfl) (pa_cons' (pe_P C_nearest_common (passT tk) hr (by decide) hgd rfl (pa_cons' (pv' 0) (pa_cons' (pv' 1) (pa_cons' (pv' 2) pa_nil'))) (aCons_len (aCons_len (aCons_len aNil_len))) rfl) pa_nil'))) pa_nil')) (pe_repr' hgd (u200 hr) rfl b_repr (pa_cons' (pe_lst' (pa_cons' (pe_tuple' rfl b_tuple (pa_cons' (pv' 3) pa_nil')) (pa_cons' (pe_tuple' rfl b_tuple (pa_cons' (pv' 4) pa_nil')) pa_nil'))) pa_nil'))) (pss_one' (ps_ret' (pe_C' pe_bl fun _ => .bl _))) pss_nil') (pss_cons' (ps_if' (PW.pt (pw_or' (pt_ne' (u64 hr) (pe_K0 (ks := ["other", "one", "parents"]) (idx := [2, 1, 0]) (b := 3) C_nearest_common (fun _ _ _ _ _ _ us ws h1 h2 => match us, ws, h1, h2 with | [], [_, _, _], _, _ => rfl) (fun ds h => match ds, h with | [_, _, _], _ => rfl) (passT tk) hr (by decide) hgd rfl (pk_cons' (pv' 1) (pk_cons' (pv' 2) (pk_cons' (pv' 0) pk_nil'))) (aCons_len (aCons_len (aCons_len aNil_len)))) (pe_tuple' rfl b_tuple (pa_cons' (pv' 4) pa_nil'))) (pw_or1' (pt_ne' (u64 hr) (pe_K0 (ks := ["other", "one", "parents"]) (idx := [2, 1, 0]) (b := 3) C_common_elders (fun _ _ _ _ _ _ us ws h1 h2 => match us, ws, h1, h2 with | [], [_, _, _], _, _ => rfl) (fun ds h => match ds, h with | [_, _, _], _ => rfl) (passT tk) hr (by decide) hgd rfl (pk_cons' (pv' 1) (pk_cons' (pv' 2) (pk_cons' (pv' 0) pk_nil'))) (aCons_len (aCons_len (aCons_len aNil_len)))) (pe_tuple' rfl b_tuple (pa_cons' (pv' 3) pa_nil')))))) (pss_one' (ps_ret' (pe_C' pe_bl fun _ => .bl _))) pss_nil') (pss_cons' (ps_if' (pt_ne' (u64 hr) (pe_lc' (own := [("_law_name", 5)]) rfl sc.nd (pi_seq' (pv' 3)) (blkOk_by (N := N__law_pair_right) (sc := defScope s__law_pair_right) (own := [("_law_name", 5)]) (by decide +kernel)) (nmTg (by decide)) (fun _ _ _ _ _ => (pg_name (i := 5) sc.nd rfl (by first | exact Or.inl rfl | exact Or.inr rfl))) (fun _ _ _ _ _ => (pts_one' (pt_eq' (u64 hr) (pe_lc' (own := [("_law_late", 6)]) rfl sc.nd (pi_seq' (pv' 4)) (blkOk_by (N := N__law_pair_right) (sc := _) (own := [("_law_late", 6)]) (by kernel_rfl)) (nmTg (by decide)) (fun _ _ _ _ _ => (pg_name (i := 6) sc.nd rfl (by first | exact Or.inl rfl | exact Or.inr rfl))) (fun _ _ _ _ _ => (pts_one' (pt_in' (u65 hr) (by with_unfolding_all rfl) (pv' 5) (pe_P C__law_elders pass0 hr (by decide) hgd rfl (pa_cons' (pv' 0) (pa_cons' (pv' 6) pa_nil')) (aCons_len (aCons_len aNil_len)) rfl)))) (fun _ _ _ _ _ => (pv' 6))) (pe_lst' pa_nil')))) (fun _ _ _ _ _ => (pv' 5))) (pe_lst' pa_nil')) (pss_one' (ps_ret' (pe_C' pe_bl fun _ => .bl _))) pss_nil') (pss_one' (ps_ret' (pe_or' (pe_nin' (u65 hr) (by with_unfolding_all rfl) (pv' 1) (pe_P C__law_elders (passT tk) hr (by decide) hgd rfl (pa_cons' (pv' 0) (pa_cons' (pv' 2) pa_nil')) (aCons_len (aCons_len aNil_len)) rfl)) (pe_or1' (pe_eq' (u64 hr) (pv' 4) (pe_lst' (pa_cons' (pv' 1) pa_nil')))))))))))))
abbrev s_law : Stmt := top 17
abbrev N_law : List Str := ["_law_script", "_law_k", "_law_box_here", "_law_names", "_law_parents", "_law_handed", "_law_name", "_law_turn", "_law_one", "_law_other", "_law_ways_here", "_law_least", "_law_odd", "_law_ask", "_law_way", "_law_some"]
theorem sc_law : FnScope N_law ["_law_script"] (defScope s_law) := ⟨rfl, rfl, rfl, by decide +kernel, rfl, by decide +kernel, by decide +kernel⟩
theorem okG_law {cc P0 : Addr} (F : FnP K "law" s_law f fd) (hc : fd.code = .ref cc) (TB : LamX.TabB base mg cc P0) (hT : (P0, ("law.<locals>.<lambda>" : Str)) ∈ T) (hU : ∀ q ∈ T, q.1 = P0 → q.2 = ("law.<locals>.<lambda>" : Str)) (b_range : mg "range" = none) (b_list : mg "list" = none) (b_repr : mg "repr" = none) (b_tuple : mg "tuple" = none) (b_min : mg "min" = none) (b_len : mg "len" = none) (b_dict : mg "dict" = none) (H__law_heard : HrdD P w K mg base T "_law_heard" s__law_heard "_law_ask" f__law_heard) (C__law_box : CalD P w K mg base T "_law_box" s__law_box 1 ["_law_script", "_law_k"] f__law_box) (C__law_web : CalD P w K mg base T "_law_web" s__law_web 3 ["_law_box_here"] f__law_web) (C__law_pick : CalD P w K mg base T "_law_pick" s__law_pick 2 ["_law_box_here", "_law_some"] f__law_pick) (C_elders : CalD P w K mg base T "elders" s_elders 3 ["parents", "name"] f_elders) (C__law_elders : CalD P w K mg base T "_law_elders" s__law_elders 1 ["_law_parents", "_law_name"] f__law_elders) (C__law_pair_right : CalD P w K mg base T "_law_pair_right" s__law_pair_right 6 ["_law_parents", "_law_one", "_law_other"] f__law_pair_right) (C__law_ways : CalD P w K mg base T "_law_ways" s__law_ways 1 ["_law_parents", "_law_name", "_law_elder"] f__law_ways) (C_way_up : CalD P w K mg base T "way_up" s_way_up 3 ["parents", "name", "elder"] f_way_up) (C_common_elders : CalD P w K mg base T "common_elders" s_common_elders 4 ["parents", "one", "other"] f_common_elders) (C_nearest_common : CalD P w K mg base T "nearest_common" s_nearest_common 5 ["parents", "one", "other"] f_nearest_common) : FnG P w K mg base 8 f fd ["_law_script"] (spM K mg T 1 f_law) :=
  fnG_ofC F hc sc_law rfl fun A outer s H E hr hgd tk =>
    have sc := sc_law
    (pss_cons' (ps_for' (passes_of rfl) rfl (pi_range1' rfl b_range (pa_cons' (pe_C' pe_int fun _ => .int _) pa_nil')) (pg_name' (i := 1) sc.nd rfl (by first | exact Or.inl rfl | exact Or.inr rfl)) (pss_cons' (ps_set' (i := 2) sc.nd rfl (by first | exact Or.inl rfl | exact Or.inr rfl) (pe_M C__law_box (passT tk) hr (by decide) hgd rfl (pa_cons' (pv' 0) (pa_cons' (pv' 1) pa_nil')) (aCons_len (aCons_len aNil_len)) rfl)) (pss_cons' (ps_asg' (pe_M C__law_web (passT tk) hr (by decide) hgd rfl (pa_cons' (pv' 2) pa_nil') (aCons_len aNil_len) rfl) (pg_seq' (n := 2) rfl (pgs_cons' (pg_name' (i := 3) sc.nd rfl (by first | exact Or.inl rfl | exact Or.inr rfl)) (pgs_cons' (pg_name' (i := 4) sc.nd rfl (by first | exact Or.inl rfl | exact Or.inr rfl)) pgs_nil')))) (pss_frz 3 (pss_cons' (ps_set' (i := 5) sc.nd rfl (by first | exact Or.inl rfl | exact Or.inr rfl) pe_newD) (pss_cons' (ps_for' (passes_of rfl) rfl (pi_seq' (pv' 3)) (pg_name' (i := 6) sc.nd rfl (by first | exact Or.inl rfl | exact Or.inr rfl)) (pss_one' (ps_asg' (pe_list' rfl b_list (pa_cons' (pe_ixD (u1 hr) (fun _ _ => rfl) (pv' 4) (pv' 6)) pa_nil')) (pg_subD (fun _ _ ho hi => pg_sub ho hi (pset_or set_list (set_dict (u1 hr)))) (pv' 5) (pv' 6))))) (pss_cons' (ps_for' (passes_of rfl) rfl (pi_range1' rfl b_range (pa_cons' (pe_C' pe_int fun _ => .int _) pa_nil')) (pg_name' (i := 7) sc.nd rfl (by first | exact Or.inl rfl | exact Or.inr rfl)) (pss_cons' (ps_par' (i := 8) (j := 9) rfl sc.nd rfl rfl (by decide) rfl rfl (pa_cons' (pe_M C__law_pick (passT tk) hr (by decide) hgd rfl (pa_cons' (pv' 2) (pa_cons' (pv' 3) pa_nil')) (aCons_len (aCons_len aNil_len)) rfl) (pa_cons' (pe_M C__law_pick (passT tk) hr (by decide) hgd rfl (pa_cons' (pv' 2) (pa_cons' (pv' 3) pa_nil')) (aCons_len (aCons_len aNil_len)) rfl) pa_nil')) (by with_unfolding_all rfl)) (pss_cons' (ps_if' (PW.pt (pw_or' (pt_ne' (u64 hr) (pe_repr' hgd (u200 hr) rfl b_repr (pa_cons' (pe_P C_elders (passT tk) hr (by decide) hgd rfl (pa_cons' (pv' 5) (pa_cons' (pv' 8) pa_nil')) (aCons_len (aCons_len aNil_len)) rfl) pa_nil')) (pe_repr' hgd (u200 hr) rfl b_repr (pa_cons' (pe_tuple' rfl b_tuple (pa_cons' (pe_P C__law_elders (passT tk) hr (by decide) hgd rfl (pa_cons' (pv' 4) (pa_cons' (pv' 8) pa_nil')) (aCons_len (aCons_len aNil_len)) rfl) pa_nil')) pa_nil'))) (pw_or1' (pt_ne' (u64 hr) (pe_K0 (ks := ["name", "parents"]) (idx := [1, 0]) (b := 2) C_elders (fun _ _ _ _ _ _ us ws h1 h2 => match us, ws, h1, h2 with | [], [_, _], _, _ => rfl) (fun ds h => match ds, h with | [_, _], _ => rfl) (passT tk) hr (by decide) hgd rfl (pk_cons' (pv' 9) (pk_cons' (pv' 4) pk_nil')) (aCons_len (aCons_len aNil_len))) (pe_tuple' rfl b_tuple (pa_cons' (pe_P C__law_elders (passT tk) hr (by decide) hgd rfl (pa_cons' (pv' 4) (pa_cons' (pv' 9) pa_nil')) (aCons_len (aCons_len aNil_len)) rfl) pa_nil')))))) (pss_one' (ps_ret' (pe_C' pe_bl fun _ => .bl _))) pss_nil') (pss_cons' (ps_if' (pt_not' (pt_tru' (pe_P C__law_pair_right (passT tk) hr (by decide) hgd rfl (pa_cons' (pv' 4) (pa_cons' (pv' 8) (pa_cons' (pv' 9) pa_nil'))) (aCons_len (aCons_len (aCons_len aNil_len))) rfl))) (pss_one' (ps_ret' (pe_C' pe_bl fun _ => .bl _))) pss_nil') (pss_cons' (ps_set' (i := 10) sc.nd rfl (by first | exact Or.inl rfl | exact Or.inr rfl) (pe_P C__law_ways (passT tk) hr (by decide) hgd rfl (pa_cons' (pv' 4) (pa_cons' (pv' 8) (pa_cons' (pv' 9) pa_nil'))) (aCons_len (aCons_len (aCons_len aNil_len))) rfl)) (pss_cons' (ps_set' (i := 11) sc.nd rfl (by first | exact Or.inl rfl | exact Or.inr rfl) (pe_ifExp' (pt_eq' (u64 hr) (pv' 10) (pe_lst' pa_nil')) (pe_C' pe_non fun _ => .non) (pe_minT rfl (u64 hr) rfl b_min (pa_cons' (pe_lc' (own := [("_law_way", 14)]) rfl sc.nd (pi_seq' (pv' 10)) (blkOk_by (N := N_law) (sc := defScope s_law) (own := [("_law_way", 14)]) (by decide +kernel)) (nmTg (by decide)) (fun _ _ _ _ _ => (pg_name (i := 14) sc.nd rfl (by first | exact Or.inl rfl | exact Or.inr rfl))) (fun _ _ _ _ _ => (pts_one' (pt_eq' (u64 hr) (pe_len' rfl b_len (pa_cons' (pv' 14) pa_nil')) (pe_minL' rfl rfl b_min (pa_cons' (pe_lc' (own := [("_law_some", 15)]) rfl sc.nd (pi_seq' (pv' 10)) (blkOk_by (N := N_law) (sc := _) (own := [("_law_some", 15)]) (by kernel_rfl)) (nmTg (by decide)) (fun _ _ _ _ _ => (pg_name (i := 15) sc.nd rfl (by first | exact Or.inl rfl | exact Or.inr rfl))) (fun _ _ _ _ _ => pts_nil') (fun _ _ _ _ _ => (pe_len' rfl b_len (pa_cons' (pv' 15) pa_nil')))) pa_nil'))))) (fun _ _ _ _ _ => (pv' 14))) pa_nil')))) (pss_one' (ps_if' (pt_ne' (u64 hr) (pe_repr' hgd (u200 hr) rfl b_repr (pa_cons' (pe_lst' (pa_cons' (pe_P C_way_up (passT tk) hr (by decide) hgd rfl (pa_cons' (pv' 5) (pa_cons' (pv' 8) (pa_cons' (pv' 9) pa_nil'))) (aCons_len (aCons_len (aCons_len aNil_len))) rfl) (pa_cons' (pe_K0 (ks := ["elder", "name", "parents"]) (idx := [2, 1, 0]) (b := 3) C_way_up (fun _ _ _ _ _ _ us ws h1 h2 => match us, ws, h1, h2 with | [], [_, _, _], _, _ => rfl) (fun ds h => match ds, h with | [_, _, _], _ => rfl) (passT tk) hr (by decide) hgd rfl (pk_cons' (pv' 9) (pk_cons' (pv' 8) (pk_cons' (pv' 4) pk_nil'))) (aCons_len (aCons_len (aCons_len aNil_len)))) pa_nil'))) pa_nil')) (pe_repr' hgd (u200 hr) rfl b_repr (pa_cons' (pe_lst' (pa_cons' (pv' 11) (pa_cons' (pv' 11) pa_nil'))) pa_nil'))) (pss_one' (ps_ret' (pe_C' pe_bl fun _ => .bl _))) pss_nil')))))))) (pss_cons' (ps_set' (i := 12) sc.nd rfl (by first | exact Or.inl rfl | exact Or.inr rfl) (pe_M C__law_pick (passT tk) hr (by decide) hgd rfl (pa_cons' (pv' 2) (pa_cons' (pe_lst' (pa_cons' (pe_C' pe_int fun _ => .int _) (pa_cons' (pe_sub' (pe_C' pe_int fun _ => .int _) (pe_C' pe_int fun _ => .int _)) (pa_cons' (pe_C' pe_non fun _ => .non) pa_nil')))) pa_nil')) (aCons_len (aCons_len aNil_len)) rfl)) (pss_cons' (ps_for' (passes_of rfl) rfl (pi_seq' (pe_tup' (pa_cons' (pe_gD rfl (GlD.defD C_elders)) pa_nil'))) (pg_name' (i := 13) sc.nd rfl (by first | exact Or.inl rfl | exact Or.inr rfl)) (pss_one' (ps_if' (pt_ne' (u64 hr) (pe_hrd (k := 5) H__law_heard rfl TB rfl hT hU (hr.mono (by decide)) hgd (LamX.lamS_by (sc := defScope s_law) (by decide +kernel)) rfl (fun _ _ _ _ _ => rfl) (fun A outer t G E f c' hr hgd tk => (pe_callV (k := 3) (TblV.cons C_elders rfl (by decide) TblV.nil) (hr.mono (by decide)) hgd (passT tk) (pa_cons' (pv' 4) (pa_cons' (pv' 12) pa_nil')) rfl (by first | exact Or.inl rfl | exact Or.inr (Or.inl rfl) | exact Or.inr (Or.inr rfl))))) (pe_tup' (pa_cons' (pe_C' pe_str fun _ => .str _) (pa_cons' (pe_repr' hgd (u200 hr) rfl b_repr (pa_cons' (pv' 12) pa_nil')) (pa_cons' (pe_C' pe_bl fun _ => .bl _) pa_nil'))))) (pss_one' (ps_ret' (pe_C' pe_bl fun _ => .bl _))) pss_nil'))) (pss_cons' (ps_if' (pt_ne' (u64 hr) (pe_hrd (k := 5) H__law_heard rfl TB rfl hT hU (hr.mono (by decide)) hgd (LamX.lamS_by (sc := defScope s_law) (by decide +kernel)) rfl (fun _ _ _ _ _ => rfl) (fun A outer t G E f c' hr hgd tk => (pe_P C_common_elders (passT tk) hr (by decide) hgd rfl (pa_cons' (pv' 4) (pa_cons' (pv' 12) (pa_cons' (pe_ix' (fun _ _ => rfl) (pv' 3) (pe_C' pe_int fun _ => .int _)) pa_nil'))) (aCons_len (aCons_len (aCons_len aNil_len))) rfl))) (pe_tup' (pa_cons' (pe_C' pe_str fun _ => .str _) (pa_cons' (pe_repr' hgd (u200 hr) rfl b_repr (pa_cons' (pv' 12) pa_nil')) (pa_cons' (pe_C' pe_bl fun _ => .bl _) pa_nil'))))) (pss_one' (ps_ret' (pe_C' pe_bl fun _ => .bl _))) pss_nil') (pss_cons' (ps_if' (pt_ne' (u64 hr) (pe_hrd (k := 5) H__law_heard rfl TB rfl hT hU (hr.mono (by decide)) hgd (LamX.lamS_by (sc := defScope s_law) (by decide +kernel)) rfl (fun _ _ _ _ _ => rfl) (fun A outer t G E f c' hr hgd tk => (pe_P C_nearest_common (passT tk) hr (by decide) hgd rfl (pa_cons' (pv' 4) (pa_cons' (pe_ix' (fun _ _ => rfl) (pv' 3) (pe_C' pe_int fun _ => .int _)) (pa_cons' (pv' 12) pa_nil'))) (aCons_len (aCons_len (aCons_len aNil_len))) rfl))) (pe_tup' (pa_cons' (pe_C' pe_str fun _ => .str _) (pa_cons' (pe_repr' hgd (u200 hr) rfl b_repr (pa_cons' (pv' 12) pa_nil')) (pa_cons' (pe_C' pe_bl fun _ => .bl _) pa_nil'))))) (pss_one' (ps_ret' (pe_C' pe_bl fun _ => .bl _))) pss_nil') (pss_cons' (ps_if' (pt_ne' (u64 hr) (pe_hrd (k := 5) H__law_heard rfl TB rfl hT hU (hr.mono (by decide)) hgd (LamX.lamS_by (sc := defScope s_law) (by decide +kernel)) rfl (fun _ _ _ _ _ => rfl) (fun A outer t G E f c' hr hgd tk => (pe_P C_way_up (passT tk) hr (by decide) hgd rfl (pa_cons' (pv' 4) (pa_cons' (pv' 12) (pa_cons' (pe_ix' (fun _ _ => rfl) (pv' 3) (pe_C' pe_int fun _ => .int _)) pa_nil'))) (aCons_len (aCons_len (aCons_len aNil_len))) rfl))) (pe_tup' (pa_cons' (pe_C' pe_str fun _ => .str _) (pa_cons' (pe_repr' hgd (u200 hr) rfl b_repr (pa_cons' (pv' 12) pa_nil')) (pa_cons' (pe_C' pe_bl fun _ => .bl _) pa_nil'))))) (pss_one' (ps_ret' (pe_C' pe_bl fun _ => .bl _))) pss_nil') (pss_one' (ps_if' (pt_neDD (u64 hr) (pv' 5) (pe_dictP rfl rfl b_dict (pa_cons' (pe_lc' (own := [("_law_name", 6)]) rfl sc.nd (pi_seq' (pv' 3)) (blkOk_by (N := N_law) (sc := defScope s_law) (own := [("_law_name", 6)]) (by decide +kernel)) (nmTg (by decide)) (fun _ _ _ _ _ => (pg_name (i := 6) sc.nd rfl (by first | exact Or.inl rfl | exact Or.inr rfl))) (fun _ _ _ _ _ => pts_nil') (fun _ _ _ _ _ => (pe_tup' (pa_cons' (pv' 6) (pa_cons' (pe_list' rfl b_list (pa_cons' (pe_ixD (u1 hr) (fun _ _ => rfl) (pv' 4) (pv' 6)) pa_nil')) pa_nil'))))) pa_nil'))) (pss_one' (ps_ret' (pe_C' pe_bl fun _ => .bl _))) pss_nil')))))))))))))) (pss_one' (ps_ret' (pe_C' pe_bl fun _ => .bl _))))
end
end K61
set_option Elab.async false
set_option linter.all false
set_option maxRecDepth 100000
namespace El
open Kw (lookup_some mem_lookup lookup_mem lookup_none lt_mem_eq)
abbrev Lk := List (Int × List Int)
def keysG (G : Lk) : List Int := G.map (·.1)
def lnk (G : Lk) (x : Int) : List Int := (G.lookup x).getD []
def rk (G : Lk) (x : Int) : Nat := (keysG G).idxOf x
/-- a web: elders come earlier -/
structure Web (G : Lk) : Prop where
  nd : (keysG G).Nodup
  few : G.length ≤ 12
  ln : ∀ p ∈ G, p.2.length ≤ 12 ∧ p.2.Nodup
  up : ∀ p ∈ G, ∀ y ∈ p.2, y ∈ keysG G ∧ rk G y < rk G p.1
theorem lnk_of {G : Lk} {x : Int} {ys : List Int} (h : G.lookup x = some ys) : lnk G x = ys := by unfold lnk; rw [h]; rfl
theorem look {G : Lk} {x : Int} (h : x ∈ keysG G) : G.lookup x = some (lnk G x) := by
  obtain ⟨v, e⟩ := lookup_some h
  rw [e, lnk_of e]
theorem lnk_in {G : Lk} {x : Int} (h : x ∈ keysG G) : (x, lnk G x) ∈ G := mem_lookup (look h)
theorem Web.link {G : Lk} (W : Web G) {x y : Int} (hx : x ∈ keysG G) (hy : y ∈ lnk G x) : y ∈ keysG G ∧ rk G y < rk G x := W.up _ (lnk_in hx) _ hy
theorem lnk_none {G : Lk} {x : Int} (h : x ∉ keysG G) : lnk G x = [] := by
  unfold lnk
  rw [lookup_none.mpr h]; rfl
/-- elders, itself among them -/
inductive Up (G : Lk) (x : Int) : Int → Prop
  | rf : Up G x x
  | st {y z : Int} : Up G x y → z ∈ lnk G y → Up G x z
section
variable {G : Lk} {x y z : Int}
theorem Up.trans (h : Up G x y) (h2 : Up G y z) : Up G x z := by
  induction h2 with
  | rf => exact h
  | st _ hz ih => exact .st ih hz
theorem Up.key (W : Web G) (hx : x ∈ keysG G) (h : Up G x y) : y ∈ keysG G ∧ (y = x ∨ rk G y < rk G x) := by
  induction h with
  | rf => exact ⟨hx, .inl rfl⟩
  | st _ hz ih =>
    obtain ⟨k1, k2⟩ := ih
    obtain ⟨h1, h2⟩ := W.link k1 hz
    exact ⟨h1, .inr (by rcases k2 with rfl | k2 <;> omega)⟩
theorem Up.head (h : Up G x y) : y = x ∨ ∃ p ∈ lnk G x, Up G p y := by
  induction h with
  | rf => exact .inl rfl
  | @st y z h hz ih =>
    rcases ih with rfl | ⟨p, hp, hu⟩
    · exact .inr ⟨z, hz, .rf⟩
    · exact .inr ⟨p, hp, .st hu hz⟩
theorem Up.of_link (hp : y ∈ lnk G x) (h : Up G y z) : Up G x z := (Up.st .rf hp : Up G x y).trans h
theorem Up.asym (W : Web G) (hx : x ∈ keysG G) (h : Up G x y) (h2 : Up G y x) : x = y := by
  obtain ⟨k1, k2⟩ := h.key W hx
  obtain ⟨k3, k4⟩ := h2.key W k1
  rcases k2 with rfl | k2
  · rfl
  · rcases k4 with rfl | k4
    · rfl
    · omega
end
/-- the one row of elders -/
def IsE (G : Lk) (x : Int) (R : List Int) : Prop := R.Pairwise (· < ·) ∧ ∀ y, y ∈ R ↔ Up G x y
theorem IsE.eq {G : Lk} {x : Int} {R R' : List Int} (h : IsE G x R) (h' : IsE G x R') : R = R' := lt_mem_eq h.1 h'.1 fun z => (h.2 z).trans (h'.2 z).symm
/-- those that are new -/
def fr (F : List Int) : List Int → List Int
  | [] => []
  | y :: ys => if y ∈ F then fr F ys else y :: fr (F ++ [y]) ys
theorem fr_mem : ∀ (ys F : List Int) (z : Int), z ∈ F ++ fr F ys ↔ z ∈ F ∨ z ∈ ys
  | [], F, z => by simp [fr]
  | y :: ys, F, z => by
    unfold fr
    split
    · next h =>
      rw [fr_mem ys F z, List.mem_cons]
      exact ⟨fun q => q.imp id .inr, fun q => q.elim .inl fun q => q.elim (fun e => .inl (e ▸ h)) .inr⟩
    · have := fr_mem ys (F ++ [y]) z
      rw [List.append_assoc, List.singleton_append] at this
      rw [this, List.mem_append, List.mem_singleton, List.mem_cons, or_assoc]
theorem fr_nodup : ∀ (ys F : List Int), F.Nodup → (F ++ fr F ys).Nodup
  | [], F, h => by simpa [fr] using h
  | y :: ys, F, h => by
    unfold fr
    split
    · exact fr_nodup ys F h
    · next hy =>
      have := fr_nodup ys (F ++ [y]) (List.nodup_append.mpr ⟨h, by simp, fun a ha b hb => by
        rw [List.mem_singleton.mp hb]
        exact fun e => hy (e ▸ ha)⟩)
      rwa [List.append_assoc, List.singleton_append] at this
structure SI (G : Lk) (x : Int) (F W : List Int) : Prop where
  nd : F.Nodup
  st : x ∈ F
  up : ∀ y ∈ F, Up G x y
  sub : ∀ y ∈ W, y ∈ F
  cl : ∀ y ∈ F, y ∈ W ∨ ∀ z ∈ lnk G y, z ∈ F
theorem SI.start (G : Lk) (x : Int) : SI G x [x] [x] := ⟨by simp, by simp, fun y hy => by rw [List.mem_singleton.mp hy]; exact .rf, fun _ h => h, fun y hy => .inl hy⟩
theorem SI.step {G : Lk} {x n : Int} {F W : List Int} (h : SI G x F (W ++ [n])) : SI G x (F ++ fr F (lnk G n)) (W ++ fr F (lnk G n)) := by
  have hn : n ∈ F := h.sub n (by simp)
  refine ⟨fr_nodup _ _ h.nd, List.mem_append_left _ h.st, fun y hy => ?_, fun y hy => ?_, fun y hy => ?_⟩
  · rcases (fr_mem _ _ _).mp hy with hy | hy
    · exact h.up y hy
    · exact .st (h.up n hn) hy
  · rcases List.mem_append.mp hy with hy | hy
    · exact List.mem_append_left _ (h.sub y (List.mem_append_left _ hy))
    · exact List.mem_append_right _ hy
  · rcases List.mem_append.mp hy with hy | hy
    · rcases h.cl y hy with q | q
      · rcases List.mem_append.mp q with q | q
        · exact .inl (List.mem_append_left _ q)
        · rw [List.mem_singleton.mp q]
          exact .inr fun z hz => (fr_mem _ _ _).mpr (.inr hz)
      · exact .inr fun z hz => List.mem_append_left _ (q z hz)
    · exact .inl (List.mem_append_right _ hy)
theorem SI.done {G : Lk} {x : Int} {F : List Int} (h : SI G x F []) (y : Int) : y ∈ F ↔ Up G x y := by
  refine ⟨h.up y, fun u => ?_⟩
  induction u with
  | rf => exact h.st
  | st _ hz ih => exact (h.cl _ ih).elim (fun q => by cases q) fun q => q _ hz
def comm (R R' : List Int) : List Int := R.filter fun y => decide (y ∈ R')
theorem common_iff {G : Lk} {a b : Int} {R R' : List Int} (h : IsE G a R) (h' : IsE G b R') (y : Int) : y ∈ comm R R' ↔ Up G a y ∧ Up G b y := by
  unfold comm
  rw [List.mem_filter, h.2, decide_eq_true_eq, h'.2]
/-- farther than some common one -/
def Far (G : Lk) (C : List Int) (y : Int) : Prop := ∃ c ∈ C, ∃ p ∈ lnk G c, Up G p y
theorem far_iff {G : Lk} (W : Web G) {C : List Int} (hC : ∀ c ∈ C, c ∈ keysG G) (y : Int) : Far G C y ↔ ∃ c ∈ C, c ≠ y ∧ Up G c y := by
  constructor
  · rintro ⟨c, hc, p, hp, hu⟩
    refine ⟨c, hc, fun e => ?_, Up.of_link hp hu⟩
    subst e
    obtain ⟨k1, k2⟩ := W.link (hC c hc) hp
    obtain ⟨k3, k4⟩ := hu.key W k1
    rcases k4 with k4 | k4
    · rw [k4] at k2; omega
    · omega
  · rintro ⟨c, hc, hne, hu⟩
    rcases hu.head with e | ⟨p, hp, h⟩
    · exact absurd e.symm hne
    · exact ⟨c, hc, p, hp, h⟩
/-- each common one lies above a nearest one -/
theorem above_near {G : Lk} (W : Web G) {C : List Int} (hC : ∀ c ∈ C, c ∈ keysG G) : ∀ (n : Nat) (y : Int), y ∈ C → G.length - rk G y ≤ n → ∃ c ∈ C, Up G c y ∧ ¬ Far G C c
  | 0, y, hy, hn => by
    exfalso
    have : rk G y < (keysG G).length := List.idxOf_lt_length_iff.mpr (hC y hy)
    unfold keysG at this
    rw [List.length_map] at this
    omega
  | n + 1, y, hy, hn => by
    by_cases h : Far G C y
    · obtain ⟨c, hc, hne, hu⟩ := (far_iff W hC y).mp h
      have hr : rk G y < rk G c := by
        rcases (hu.key W (hC c hc)).2 with e | e
        · exact absurd e.symm hne
        · exact e
      obtain ⟨d, hd, h1, h2⟩ := above_near W hC n c hc (by omega)
      exact ⟨d, hd, h1.trans hu, h2⟩
    · exact ⟨y, hy, .rf, h⟩
end El
set_option Elab.async false
set_option linter.all false
set_option maxRecDepth 100000
namespace K61
open PySem PySem.Spec PyProof.Rows L2 Kw El
/-- a row as a tuple or a list -/
def sqI (b : Bool) (xs : List Int) : D := match b with
  | true => oT xs
  | false => oL xs
section
variable {b : Bool} {xs : List Int} {μ : Mem}
theorem sqI_seq : seqV (sqI b xs) = some (xs.map D.int) := by cases b <;> rfl
theorem sqI_list : gList [sqI b xs] μ = some (oL xs) := by cases b <;> rfl
theorem sqI_loc (sc : Bool) (k : Nat) : locB sc k (sqI b xs) = true := by
  cases b
  · show locBs sc k (xs.map D.int) = true
    exact loc_ints _ _ _
  · show locBs sc k (xs.map D.int) = true
    exact loc_ints _ _ _
end
/-- the web lent -/
abbrev pG (b : Bool) (G : Lk) : D := .brd (dE (sqI b) G)
theorem locBk_G (b : Bool) : ∀ G : Lk, locBk false 0 (dE (sqI b) G) = true
  | [] => rfl
  | p :: G => by
    rw [dE_cons, locBk, sqI_loc, locBk_G b G]; rfl
theorem pG_loc (b : Bool) (G : Lk) : locB false 0 (pG b G) = true := by
  show (!false && locBk false 0 (dE (sqI b) G)) = true
  rw [locBk_G]; rfl
section
variable {b : Bool} {G : Lk} {x : Int} {μ : Mem}
theorem pG_ls {d : D} (h : locB false 0 d = true) : locBs false 0 [pG b G, d] = true := by
  show (locB false 0 (pG b G) && (locB false 0 d && true)) = true
  rw [pG_loc, h]; rfl
theorem pG_ix (h : x ∈ keysG G) : gIxD (pG b G) (.int x) μ = some (sqI b (lnk G x)) := ixD_run (e := sqI b) (G := G) rfl (look h)
theorem pG_nin : gNinN (.int x) (pG b G) μ = some (.bl !decide (x ∈ keysG G)) := by
  have := ninD_run (e := sqI b) (G := G) (k := x) (μ := μ) (x := pG b G) rfl
  exact this
def noO (d : D) : Xn := ⟨"NoObject", [("name", d)]⟩
theorem need_run (h : x ∈ keysG G) (μ : Mem) : callP f_need_there [pG b G, .int x] μ = .ok (.int x) μ := by
  have n := fun μ => pG_nin (b := b) (G := G) (x := x) (μ := μ)
  rw [decide_eq_true h] at n
  have v : ∀ μ, vOf (some (some (pG b G))) μ = .ok (pG b G) μ := fun _ => rfl
  refine callP_ok (μ' := []) (body_ret (δ := [some (pG b G), some (.int x)]) rfl ?_) (pG_ls rfl) rfl
  unfold m_need_there
  generalize pG b G = t at *
  simp [eVar_run, v, n]
theorem need_bad (h : x ∉ keysG G) (μ : Mem) : callP f_need_there [pG b G, .int x] μ = .exc (noO (.int x)) μ := by
  have n := fun μ => pG_nin (b := b) (G := G) (x := x) (μ := μ)
  rw [decide_eq_false h] at n
  have v : ∀ μ, vOf (some (some (pG b G))) μ = .ok (pG b G) μ := fun _ => rfl
  refine callP_exc (μ' := []) (body_exc (δ := [some (pG b G), some (.int x)]) (δ' := [some (pG b G), some (.int x)]) rfl ?_) (pG_ls rfl) rfl
  unfold m_need_there noO
  generalize pG b G = t at *
  simp [eVar_run, v, n]
theorem need_non (μ : Mem) : callP f_need_there [pG b G, .non] μ = .exc (noO .non) μ := by
  have n : ∀ μ, gNinN .non (pG b G) μ = some (.bl true) := fun _ => rfl
  have v : ∀ μ, vOf (some (some (pG b G))) μ = .ok (pG b G) μ := fun _ => rfl
  refine callP_exc (μ' := []) (body_exc (δ := [some (pG b G), some .non]) (δ' := [some (pG b G), some .non]) rfl ?_) (pG_ls rfl) rfl
  unfold m_need_there noO
  generalize pG b G = t at *
  simp [eVar_run, v, n]
end
end K61
set_option Elab.async false
set_option linter.all false
set_option maxRecDepth 100000
namespace K61
open PySem PySem.Spec PyProof.Rows L2 Kw El
def tD : Unit → D := fun _ => .bl true
def dS (F : List Int) : List (D × D) := dE tD (F.map fun x => (x, ()))
theorem dS_keys (F : List Int) : (F.map fun x => (x, ())).map (·.1) = F := by
  rw [List.map_map]; exact List.map_id' F
theorem dS_app (F : List Int) (x : Int) : dE tD ((F.map fun x => (x, ())) ++ [(x, ())]) = dS (F ++ [x]) := by simp [dS]
def ec : TM := (tBl (e2 gGt (eAs gLen (aCons (eVar 3) aNil)) (eC (.int 0))))
def eb1 : TM := (tBl (e2 gNinD (eCallP f_need_there (aCons (eVar 0) (aCons (eVar 4) aNil))) (eVar 2)))
def eb2 : SM := (sSeq (sAsg (eC (.bl true)) (gSubMD (eVar 2) (eVar 4))) (sDrop (eMtL gAppend (eVar 3) (aCons (eVar 4) aNil))))
def ebd : SM := (sFor (iSeq (e2 gIxD (eVar 0) (eMtL gPop (eVar 3) aNil))) (gNm 4) (sIf eb1 eb2 sNext))
def ee1 : SM := (sAsg (eDispN (eCallP f_need_there (aCons (eVar 0) (aCons (eVar 1) aNil))) (eC (.bl true))) (gNm 2))
def ee2 : SM := (sAsg (eAsM gNewL (aCons (eVar 1) aNil)) (gNm 3))
def ee3 : SM := (sRet (eAs gTuple (aCons (eAs gSrt (aCons (eAs gListK (aCons (eVar 2) aNil)) aNil)) aNil)))
theorem el_f : m_elders = sSeq ee1 (sSeq ee2 (sSeq (sWhile (fun _ _ => 1000) ec ebd) ee3)) := rfl
section
variable {b : Bool} {G : Lk} {x : Int}
abbrev slE (b : Bool) (G : Lk) (x : Int) (o : Option D) : Sv := [some (pG b G), some (.int x), some (.loc 0), some (.loc 1), o]
abbrev mE (F W : List Int) : Mem := [.dct (dS F), .lst (W.map D.int)]
theorem eb_run {F W : List Int} {n : Int} (hn : n ∈ keysG G) (hF : F.length ≤ 100000) (hW : W.length ≤ 100000) : sIf eb1 eb2 sNext (slE b G x (some (.int n))) (mE F W) = if n ∈ F then .nx (slE b G x (some (.int n))) (mE F W) else .nx (slE b G x (some (.int n))) (mE (F ++ [n]) (W ++ [n])) := by
  have v : ∀ μ, vOf (some (some (pG b G))) μ = .ok (pG b G) μ := fun _ => rfl
  have nr := need_run (b := b) hn
  have ni : gNinD (.int n) (.loc 0) (mE F W) = some (.bl !(decide (n ∈ F))) := by
    have := ninD_run (e := tD) (G := F.map fun x => (x, ())) (k := n) (μ := mE F W) (x := .loc 0) (dctOf_loc rfl)
    rwa [dS_keys] at this
  by_cases c : n ∈ F
  · rw [if_pos c]
    rw [decide_eq_true c] at ni
    unfold slE
    generalize pG b G = t at *
    generalize mE F W = m at *
    simp [eb1, eVar_run, v, nr, ni]
  · rw [if_neg c]
    rw [decide_eq_false c] at ni
    have st : gSetD (.loc 0) (.int n) (.bl true) (mE F W) = some (mE (F ++ [n]) W) := by
      have := setD_new (e := tD) (G := F.map fun x => (x, ())) (k := n) (v := ()) (μ := mE F W) (l := 0) rfl (lookup_none.mpr (by rw [dS_keys]; exact c)) (by rw [List.length_map]; omega)
      rw [dS_app] at this
      exact this
    have ap : gAppend (.loc 1) [.int n] (mE (F ++ [n]) W) = some (.non, mE (F ++ [n]) (W ++ [n])) := by
      have := append_at (μ := mE (F ++ [n]) W) (l := 1) (xs := W.map D.int) (y := .int n) rfl (by rw [List.length_map]; omega)
      rw [this]
      show some (D.non, [Ob.dct (dS (F ++ [n])), Ob.lst (W.map D.int ++ [.int n])]) = _
      rw [← List.map_singleton (f := D.int), ← List.map_append]
    have lx : (lstX (mE (F ++ [n]) W) (.loc 1)).isSome = true := rfl
    unfold slE
    generalize pG b G = t at *
    generalize mE (F ++ [n]) (W ++ [n]) = m3 at *
    generalize mE (F ++ [n]) W = m2 at *
    generalize mE F W = m at *
    simp [eb1, eb2, eVar_run, v, nr, ni, st, lx, ap]
theorem eb_loop : ∀ (ys F W : List Int) (o : Option D), (∀ y ∈ ys, y ∈ keysG G) → F.length + ys.length ≤ 50000 → W.length + ys.length ≤ 50000 → ∃ p, loopS (gNm 4) (sIf eb1 eb2 sNext) (ys.map D.int) (slE b G x o) (mE F W) = .nx (slE b G x p) (mE (F ++ fr F ys) (W ++ fr F ys))
  | [], F, W, o, _, _, _ => ⟨o, by unfold fr; rw [List.append_nil, List.append_nil]; rfl⟩
  | y :: ys, F, W, o, hk, h1, h2 => by
    rw [List.length_cons] at h1 h2
    have t := eb_run (b := b) (G := G) (x := x) (F := F) (W := W) (hk y (.head _)) (by omega) (by omega)
    have g : gNm 4 (.int y) (slE b G x o) (mE F W) = .nx (slE b G x (some (.int y))) (mE F W) := rfl
    rw [List.map_cons]
    unfold fr
    by_cases c : y ∈ F
    · rw [if_pos c] at t
      rw [if_pos c]
      obtain ⟨p, e⟩ := eb_loop ys F W (some (.int y)) (fun z hz => hk z (.tail _ hz)) (by omega) (by omega)
      exact ⟨p, (loopS_nx g t).trans e⟩
    · rw [if_neg c] at t
      rw [if_neg c]
      obtain ⟨p, e⟩ := eb_loop ys (F ++ [y]) (W ++ [y]) (some (.int y)) (fun z hz => hk z (.tail _ hz)) (by rw [List.length_append, List.length_singleton]; omega) (by rw [List.length_append, List.length_singleton]; omega)
      rw [List.append_assoc, List.append_assoc, List.singleton_append] at e
      exact ⟨p, (loopS_nx g t).trans e⟩
theorem fr_len (F : List Int) {K : List Int} (ys : List Int) (nd : F.Nodup) (hF : ∀ y ∈ F, y ∈ K) (hy : ∀ y ∈ ys, y ∈ K) : (F ++ fr F ys).length ≤ K.length := sub_len (fr_nodup ys F nd) fun z hz => by
  rcases (fr_mem ys F z).mp hz with h | h
  · exact hF z h
  · exact hy z h
theorem el_loop (W : Web G) (hx : x ∈ keysG G) : ∀ (k : Nat) (F Wt : List Int) (o : Option D), SI G x F Wt → 2 * (G.length - F.length) + Wt.length < k → k ≤ 1000 → ∃ F' p, whileS ec ebd k (slE b G x o) (mE F Wt) = .nx (slE b G x p) (mE F' []) ∧ SI G x F' []
  | 0, F, Wt, o, _, h, _ => absurd h (by omega)
  | k + 1, F, Wt, o, h, hk, h1 => by
    unfold whileS
    have hc : ec (slE b G x o) (mE F Wt) = .ok (decide (0 < (Wt.length : Int))) (mE F Wt) := by
      have ln : gLen [.loc 1] (mE F Wt) = some (.int (Wt.length : Int)) := by
        show some (D.int ((Wt.map D.int).length : Int)) = _
        rw [List.length_map]
      unfold slE ec
      generalize pG b G = t at *
      generalize mE F Wt = m at *
      simp [eVar_run, ln]
    rw [hc]
    rcases List.eq_nil_or_concat Wt with rfl | ⟨W0, n, rfl⟩
    · exact ⟨F, o, rfl, h⟩
    · rw [List.concat_eq_append] at *
      rw [decide_eq_true (by rw [List.length_append]; show (0 : Int) < ((W0.length + 1 : Nat) : Int); omega)]
      have hn : n ∈ keysG G := ((h.up n (h.sub n (by simp))).key W hx).1
      have hF : ∀ y ∈ F, y ∈ keysG G := fun y hy => ((h.up y hy).key W hx).1
      have hl : ∀ y ∈ lnk G n, y ∈ keysG G := fun y hy => (W.link hn hy).1
      have kl : (keysG G).length = G.length := List.length_map _
      have f1 := fr_len F (lnk G n) h.nd hF hl
      have f2 : (lnk G n).length ≤ 12 := (W.ln _ (lnk_in hn)).1
      have few := W.few
      rw [List.length_append] at f1
      rw [List.length_append, List.length_singleton] at hk
      have hp : gPop (.loc 1) [] (mE F (W0 ++ [n])) = some (.int n, mE F W0) := by
        have := pop_last (μ := mE F (W0 ++ [n])) (l := 1) (xs := W0.map D.int) (x := .int n) (by simp [mE])
        rw [this]; rfl
      have lx : (lstX (mE F (W0 ++ [n])) (.loc 1)).isSome = true := rfl
      have ix := pG_ix (b := b) (μ := mE F W0) hn
      have v : ∀ μ, vOf (some (some (pG b G))) μ = .ok (pG b G) μ := fun _ => rfl
      have sv := sqI_seq (b := b) (xs := lnk G n)
      have it : iSeq (e2 gIxD (eVar 0) (eMtL gPop (eVar 3) aNil)) (slE b G x o) (mE F (W0 ++ [n])) = .ok ((lnk G n).map D.int) (mE F W0) := by
        unfold slE
        generalize pG b G = t at *
        generalize sqI b (lnk G n) = u at *
        generalize mE F (W0 ++ [n]) = m at *
        generalize mE F W0 = m2 at *
        simp [eVar_run, v, lx, hp, ix, sv]
      obtain ⟨p, e⟩ := eb_loop (b := b) (G := G) (x := x) (lnk G n) F W0 o hl (by omega) (by omega)
      have bd : ebd (slE b G x o) (mE F (W0 ++ [n])) = .nx (slE b G x p) (mE (F ++ fr F (lnk G n)) (W0 ++ fr F (lnk G n))) := by
        unfold ebd
        rw [sFor_run, it, bindS_ok]; exact e
      obtain ⟨F', p', e2, h2⟩ := el_loop W hx k (F ++ fr F (lnk G n)) (W0 ++ fr F (lnk G n)) p h.step (by rw [List.length_append, List.length_append]; omega) (by omega)
      refine ⟨F', p', ?_, h2⟩
      show (match ebd (slE b G x o) (mE F (W0 ++ [n])) with | .nx δ2 μ2 => whileS ec ebd k δ2 μ2 | .ct δ2 μ2 => whileS ec ebd k δ2 μ2 | .bk δ2 μ2 => .nx δ2 μ2 | .ret v μ2 => .ret v μ2 | .exc x δ2 μ2 => .exc x δ2 μ2 | .stuck => .stuck) = _
      rw [bd]
      exact e2
theorem elders_run (W : Web G) (hx : x ∈ keysG G) : ∃ R, IsE G x R ∧ ∀ μ, callP f_elders [pG b G, .int x] μ = .ok (oT R) μ := by
  have few := W.few
  obtain ⟨F, p, e, h⟩ := el_loop (b := b) W hx 1000 [x] [x] none (SI.start G x) (by simp; omega) (by omega)
  refine ⟨srtI F, ⟨by rw [srtI_nodup h.nd]; exact srtU_lt F, fun y => mem_srtI.trans (h.done y)⟩, fun μ => ?_⟩
  have nr := need_run (b := b) hx
  have v : ∀ μ, vOf (some (some (pG b G))) μ = .ok (pG b G) μ := fun _ => rfl
  have s1 : ee1 [some (pG b G), some (.int x), none, none, none] [] = .nx [some (pG b G), some (.int x), some (.loc 0), none, none] [.dct (dS [x])] := by
    have ed : dS [x] = [(.int x, .bl true)] := rfl
    rw [ed]
    generalize pG b G = t at *
    simp [ee1, eDispN, eVar_run, v, nr, keyK_i]
  have s2 : ee2 [some (pG b G), some (.int x), some (.loc 0), none, none] [.dct (dS [x])] = .nx (slE b G x none) (mE [x] [x]) := rfl
  have k1 : gListK [.loc 0] (mE F []) = some (oL F) := by
    have := listK_loc (e := tD) (G := F.map fun x => (x, ())) (μ := mE F []) (l := 0) rfl
    rwa [dS_keys] at this
  have k2 : gSrt [oL F] (mE F []) = some (oL (srtI F)) := srt_lst
  have k3 : ∀ μ, gTuple [oL (srtI F)] μ = some (oT (srtI F)) := fun _ => rfl
  have s4 : ee3 (slE b G x p) (mE F []) = .ret (oT (srtI F)) (mE F []) := by
    unfold slE ee3
    generalize pG b G = t at *
    generalize oL F = t2 at *
    generalize oL (srtI F) = t3 at *
    generalize oT (srtI F) = t4 at *
    generalize mE F [] = m at *
    simp [eVar_run, k1, k2, k3]
  exact callP_ok (μ' := mE F []) (body_ret (δ := [some (pG b G), some (.int x), none, none, none]) rfl ((congrFun (congrFun el_f _) _).trans <| (seq_nx s1).trans <| (seq_nx s2).trans <| (seq_nx (show sWhile (fun _ _ => 1000) ec ebd (slE b G x none) (mE [x] [x]) = _ from e)).trans s4)) (pG_ls rfl) (by show locBs false 0 _ = true; exact loc_ints _ _ _)
end
end K61
set_option Elab.async false
set_option linter.all false
set_option maxRecDepth 100000
namespace K61
open PySem PySem.Spec PyProof.Rows L2 Kw El
section
variable {b : Bool} {G : Lk} {x : Int}
theorem elders_exc {d : D} {f : Xn} (v2 : ∀ μ, vOf (some (some d)) μ = .ok d μ) (hd : locB false 0 d = true) (hf : locBs false 0 (f.fs.map (·.2)) = true) (nr : ∀ μ, callP f_need_there [pG b G, d] μ = .exc f μ) (μ : Mem) : callP f_elders [pG b G, d] μ = .exc f μ := by
  have v : ∀ μ, vOf (some (some (pG b G))) μ = .ok (pG b G) μ := fun _ => rfl
  have s1 : ee1 [some (pG b G), some d, none, none, none] [] = .exc f [some (pG b G), some d, none, none, none] [] := by
    generalize pG b G = t at *
    simp [ee1, eDispN, eVar_run, v, v2, nr]
  refine callP_exc (μ' := []) (body_exc (δ := [some (pG b G), some d, none, none, none]) (δ' := [some (pG b G), some d, none, none, none]) rfl ((congrFun (congrFun el_f _) _).trans ?_)) (pG_ls hd) ?_
  · unfold sSeq
    rw [s1]; rfl
  · exact hf
theorem elders_bad (h : x ∉ keysG G) (μ : Mem) : callP f_elders [pG b G, .int x] μ = .exc (noO (.int x)) μ := elders_exc (fun _ => rfl) rfl rfl (need_bad h) μ
theorem elders_non (μ : Mem) : callP f_elders [pG b G, .non] μ = .exc (noO .non) μ := elders_exc (fun _ => rfl) rfl rfl need_non μ
end
end K61
set_option Elab.async false
set_option linter.all false
set_option maxRecDepth 100000
namespace Kw.Dh
open PySem PySem.Spec PyProof.Rows L2 Kw
section
variable {α β : Type} {ev : α → D}
def putG (G : List (Int × α)) (k : Int) (v : α) : List (Int × α) := if (G.lookup k).isSome = true then G.map (fun p => if p.1 = k then (p.1, v) else p) else G ++ [(k, v)]
theorem put_putG (F : List (Int × α)) (k : Int) (v : α) : putKD (dE ev F) (.int k) (.inl k) (ev v) = dE ev (putG F k v) := by
  unfold putKD putG
  rw [any_dE]
  split
  · unfold dE
    rw [List.map_map, List.map_map]
    refine List.map_congr_left fun p _ => ?_
    show (if keyK (.int p.1) = some (.inl k) then (D.int p.1, ev v) else (D.int p.1, ev p.2)) = _
    by_cases e : p.1 = k
    · rw [if_pos (by rw [e]; rfl)]
      show _ = (D.int (if p.1 = k then (p.1, v) else p).1, ev (if p.1 = k then (p.1, v) else p).2)
      rw [if_pos e]
    · rw [if_neg (fun h => e (by cases h; rfl))]
      show _ = (D.int (if p.1 = k then (p.1, v) else p).1, ev (if p.1 = k then (p.1, v) else p).2)
      rw [if_neg e]
  · rw [dE_app]; rfl
theorem putG_len (G : List (Int × α)) (k : Int) (v : α) : (putG G k v).length = if (G.lookup k).isSome = true then G.length else G.length + 1 := by
  unfold putG
  split
  · rw [List.length_map]
  · rw [List.length_append]; rfl
theorem putG_new {G : List (Int × α)} {k : Int} {v : α} (h : G.lookup k = none) : putG G k v = G ++ [(k, v)] := by
  unfold putG
  rw [h]; rfl
variable {key : β → Int} {val : β → α}
abbrev foldG (key : β → Int) (val : β → α) (xs : List β) (G : List (Int × α)) : List (Int × α) := xs.foldl (fun G b => putG G (key b) (val b)) G
theorem foldG_len : ∀ (xs : List β) (G : List (Int × α)), (foldG key val xs G).length ≤ G.length + xs.length
  | [], G => Nat.le_refl _
  | x :: xs, G => by
    have h1 := foldG_len xs (putG G (key x) (val x))
    have h2 := putG_len G (key x) (val x)
    show (foldG key val xs (putG G (key x) (val x))).length ≤ _
    rw [List.length_cons]
    split at h2 <;> omega
theorem foldG_new : ∀ (xs : List β) (G : List (Int × α)), (xs.map key).Nodup → (∀ x ∈ xs, G.lookup (key x) = none) → foldG key val xs G = G ++ xs.map fun x => (key x, val x)
  | [], G, _, _ => (List.append_nil _).symm
  | x :: xs, G, hn, hd => by
    rw [List.map_cons, List.nodup_cons] at hn
    show foldG key val xs (putG G (key x) (val x)) = _
    rw [putG_new (hd x (.head _)), foldG_new xs _ hn.2 fun y hy => ?_, List.append_assoc]
    · rfl
    · rw [lookup_app, hd y (.tail _ hy)]
      have : (key y == key x) = false := by
        rw [beq_eq_false_iff_ne]
        intro e
        exact hn.1 (e ▸ List.mem_map.mpr ⟨y, hy, rfl⟩)
      show List.lookup (key y) [(key x, val x)] = none
      rw [List.lookup_cons, this]; rfl
theorem accD_gen {e : β → D} {δ : Sv} {μ : Mem} {i : Nat} {mk mv : EM} : ∀ (xs : List β) (G : List (Int × α)), G.length + xs.length ≤ 1000000 → (∀ x ∈ xs, mk (δ.set i (some (e x))) μ = .ok (.int (key x)) μ ∧ mv (δ.set i (some (e x))) μ = .ok (ev (val x)) μ) →
    accL (gNm i) tYesM (accD mk mv) δ (xs.map e) (dE ev G) μ = .ok (dE ev (foldG key val xs G)) μ
  | [], G, _, _ => rfl
  | x :: xs, G, hs, h => by
    obtain ⟨h1, h2⟩ := h x (.head _)
    have hz : (dE ev G).length < sizeLine := by rw [dE_len]; show _ < 2 ^ 24; simp at hs; omega
    rw [List.map_cons]
    unfold accL
    simp only [gNm_run, tYes_run, accD, h1, keyK_i, h2, if_pos hz, put_putG]
    exact accD_gen xs _ (by
      have := putG_len G (key x) (val x)
      simp at hs
      split at this <;> omega) fun y hy => h y (.tail _ hy)
theorem eDc_gen {e : β → D} {δ : Sv} {μ : Mem} {i : Nat} {mk mv : EM} {mi : IM} (xs : List β) (h1 : mi δ μ = .ok (xs.map e) μ) (hs : xs.length ≤ 1000000) (h : ∀ x ∈ xs, mk (δ.set i (some (e x))) μ = .ok (.int (key x)) μ ∧ mv (δ.set i (some (e x))) μ = .ok (ev (val x)) μ) :
    eDc mi (gNm i) tYesM mk mv [i] δ μ = .ok (.loc μ.length) (μ ++ [.dct (dE ev (foldG key val xs []))]) := by
  have w : ∀ (d : Option D), (wipeD δ [i]).set i d = δ.set i d := fun d => by
    show (δ.set i none).set i d = δ.set i d
    rw [List.set_set]
  have a := accD_gen (ev := ev) (e := e) (δ := wipeD δ [i]) (μ := μ) (i := i) (mk := mk) (mv := mv) (key := key) (val := val) xs [] (by rw [List.length_nil]; omega) fun x hx => by rw [w]; exact h x hx
  rw [dE_nil] at a
  unfold eDc
  rw [eAcc_run, h1, bind_ok, a]
end
end Kw.Dh
set_option Elab.async false
set_option linter.all false
set_option maxRecDepth 100000
namespace K61
open PySem PySem.Spec PyProof.Rows L2 Kw El Kw.Dh
def ce2 : SM := (sAsg (eDc (iSeq (eCallP f_elders (aCons (eVar 0) (aCons (eVar 2) aNil)))) (gNm 5) tYesM (eVar 5) (eC (.bl true)) [5]) (gNm 4))
section
variable {b : Bool} {G : Lk} {x y : Int} {R R' : List Int}
theorem isE_sub (W : Web G) (hx : x ∈ keysG G) (h : IsE G x R) : ∀ z ∈ R, z ∈ keysG G := fun z hz => (((h.2 z).mp hz).key W hx).1
theorem isE_nodup (h : IsE G x R) : R.Nodup := h.1.imp fun h => by omega
theorem isE_few (W : Web G) (hx : x ∈ keysG G) (h : IsE G x R) : R.length ≤ 12 := by
  have kl : (keysG G).length = G.length := List.length_map _
  have := (isE_nodup h).length_le_of_subset (isE_sub W hx h)
  have := W.few
  omega
theorem yes_keys (hn : R.Nodup) : (foldG (fun i : Int => i) (fun _ => true) R []).map (·.1) = R := by
  rw [foldG_new R [] (by rw [List.map_id']; exact hn) (fun _ _ => rfl), List.nil_append, List.map_map]
  exact List.map_id' R
theorem common_run (W : Web G) (hx : x ∈ keysG G) (hy : y ∈ keysG G) : ∃ R R', IsE G x R ∧ IsE G y R' ∧ ∀ μ, callP f_common_elders [pG b G, .int x, .int y] μ = .ok (oT (comm R R')) μ := by
  obtain ⟨R, h, e⟩ := elders_run (b := b) W hx
  obtain ⟨R', h', e'⟩ := elders_run (b := b) W hy
  refine ⟨R, R', h, h', fun μ => ?_⟩
  have v : ∀ μ, vOf (some (some (pG b G))) μ = .ok (pG b G) μ := fun _ => rfl
  have f1 := isE_few W hx h
  have f2 := isE_few W hy h'
  let F := foldG (fun i : Int => i) (fun _ => true) R' []
  have dc : eDc (iSeq (eCallP f_elders (aCons (eVar 0) (aCons (eVar 2) aNil)))) (gNm 5) tYesM (eVar 5) (eC (.bl true)) [5] [some (pG b G), some (.int x), some (.int y), some (oT R), none, none] [] = .ok (.loc 0) [.dct (dE D.bl F)] := by
    refine eDc_gen (ev := D.bl) (key := fun i : Int => i) (val := fun _ => true) (e := D.int) (μ := []) R' ?_ (by omega) fun i hi => ⟨rfl, rfl⟩
    have sq : iSeq (eC (oT R')) [] [] = .ok (R'.map D.int) [] := rfl
    generalize pG b G = t at *
    simp [eVar_run, v, e']
  have fk : F.map (·.1) = R' := yes_keys (isE_nodup h')
  have lc : lcL (gNm 5) (tBl (e2 gInD (eVar 5) (eVar 4))) (eVar 5) (wipeD [some (pG b G), some (.int x), some (.int y), some (oT R), some (.loc 0), none] [5]) (R.map D.int) [.dct (dE D.bl F)] = .ok ((comm R R').map D.int) [.dct (dE D.bl F)] := by
    refine lcL_filt (t := fun y => decide (y ∈ R')) (f := D.int) R fun a _ => ⟨?_, fun _ => rfl⟩
    have := inD_run (e := D.bl) (G := F) (k := a) (μ := [.dct (dE D.bl F)]) (x := .loc 0) (dctOf_loc rfl)
    rw [fk] at this
    show tBl (e2 gInD (eVar 5) (eVar 4)) [some (pG b G), some (.int x), some (.int y), some (oT R), some (.loc 0), some (.int a)] [.dct (dE D.bl F)] = _
    generalize pG b G = t at *
    generalize oT R = t2 at *
    generalize ([.dct (dE D.bl F)] : Mem) = m at *
    simp [eVar_run, this]
  have ll : ((comm R R').map D.int).length ≤ sizeLine := by
    rw [List.length_map]
    have : (comm R R').length ≤ R.length := List.length_filter_le _ _
    show _ ≤ 2 ^ 24
    omega
  have s1 : sAsg (eCallP f_elders (aCons (eVar 0) (aCons (eVar 1) aNil))) (gNm 3) [some (pG b G), some (.int x), some (.int y), none, none, none] [] = .nx [some (pG b G), some (.int x), some (.int y), some (oT R), none, none] [] := by
    generalize pG b G = t at *
    simp [eVar_run, v, e]
  have s2 : ce2 [some (pG b G), some (.int x), some (.int y), some (oT R), none, none] [] = .nx [some (pG b G), some (.int x), some (.int y), some (oT R), some (.loc 0), none] [.dct (dE D.bl F)] := by
    unfold ce2
    rw [sAsg_run, dc]; rfl
  have s3 : sRet (eAs gTuple (aCons (eLc (iSeq (eVar 3)) (gNm 5) (tBl (e2 gInD (eVar 5) (eVar 4))) (eVar 5) [5]) aNil)) [some (pG b G), some (.int x), some (.int y), some (oT R), some (.loc 0), none] [.dct (dE D.bl F)] = .ret (oT (comm R R')) [.dct (dE D.bl F)] := by
    have el : eLc (iSeq (eVar 3)) (gNm 5) (tBl (e2 gInD (eVar 5) (eVar 4))) (eVar 5) [5] [some (pG b G), some (.int x), some (.int y), some (oT R), some (.loc 0), none] [.dct (dE D.bl F)] = .ok (oL (comm R R')) [.dct (dE D.bl F)] := by
      rw [eLc_run, show iSeq (eVar 3) [some (pG b G), some (.int x), some (.int y), some (oT R), some (.loc 0), none] [.dct (dE D.bl F)] = .ok (R.map D.int) [.dct (dE D.bl F)] from rfl, bind_ok, lc]
      simp only [if_pos ll]
    have k3 : ∀ μ, gTuple [oL (comm R R')] μ = some (oT (comm R R')) := fun _ => rfl
    generalize pG b G = t at *
    generalize oT R = t2 at *
    generalize oL (comm R R') = t3 at *
    generalize ([.dct (dE D.bl F)] : Mem) = m at *
    generalize (eLc (iSeq (eVar 3)) (gNm 5) (tBl (e2 gInD (eVar 5) (eVar 4))) (eVar 5) [5]) = q at *
    simp [el, k3]
  exact callP_ok (μ' := [.dct (dE D.bl F)]) (body_ret (δ := [some (pG b G), some (.int x), some (.int y), none, none, none]) rfl ((seq_nx s1).trans <| (seq_nx s2).trans s3)) (pG_ls rfl) (by show locBs false 0 _ = true; exact loc_ints _ _ _)
end
end K61
set_option Elab.async false
set_option linter.all false
set_option maxRecDepth 100000
namespace K61
open PySem PySem.Spec PyProof.Rows L2 Kw El
section
variable {b : Bool} {G : Lk} {x : Int}
theorem common_exc {d d2 : D} {f : Xn} (v2 : ∀ μ, vOf (some (some d)) μ = .ok d μ) (hd : locBs false 0 [pG b G, d, d2] = true) (hf : locBs false 0 (f.fs.map (·.2)) = true) (er : ∀ μ, callP f_elders [pG b G, d] μ = .exc f μ) (μ : Mem) : callP f_common_elders [pG b G, d, d2] μ = .exc f μ := by
  have v : ∀ μ, vOf (some (some (pG b G))) μ = .ok (pG b G) μ := fun _ => rfl
  have s1 : sAsg (eCallP f_elders (aCons (eVar 0) (aCons (eVar 1) aNil))) (gNm 3) [some (pG b G), some d, some d2, none, none, none] [] = .exc f [some (pG b G), some d, some d2, none, none, none] [] := by
    generalize pG b G = t at *
    simp [eVar_run, v, v2, er]
  refine callP_exc (μ' := []) (body_exc (δ := [some (pG b G), some d, some d2, none, none, none]) (δ' := [some (pG b G), some d, some d2, none, none, none]) rfl ?_) hd hf
  unfold m_common_elders sSeq
  rw [s1]; rfl
end
end K61
set_option Elab.async false
set_option linter.all false
set_option maxRecDepth 100000
namespace K61
open PySem PySem.Spec PyProof.Rows L2 Kw El Kw.Dh
section
variable {α β : Type} {ev : α → D} {key : β → Int} {val : β → α}
theorem merge_fold : ∀ (B A : List (Int × α)), mergeKD (dE ev A) (dE ev B) = dE ev (foldG (fun p : Int × α => p.1) (fun p => p.2) B A)
  | [], A => rfl
  | p :: B, A => by
    have h : mergeKD (dE ev A) (dE ev (p :: B)) = mergeKD (putKD (dE ev A) (.int p.1) (.inl p.1) (ev p.2)) (dE ev B) := rfl
    rw [h, put_putG, merge_fold B]
    rfl
theorem putG_keys (G : List (Int × α)) (k : Int) (v : α) : (putG G k v).map (·.1) = if k ∈ G.map (·.1) then G.map (·.1) else G.map (·.1) ++ [k] := by
  unfold putG
  by_cases c : k ∈ G.map (·.1)
  · rw [if_pos c, if_pos (lookup_iff.trans (decide_eq_true c)), List.map_map]
    refine List.map_congr_left fun p _ => ?_
    show (if p.1 = k then (p.1, v) else p).1 = p.1
    split <;> rfl
  · rw [if_neg c, if_neg (fun h => c (of_decide_eq_true (lookup_iff.symm.trans h))), List.map_append]
    rfl
theorem foldG_keys : ∀ (xs : List β) (G : List (Int × α)), (foldG key val xs G).map (·.1) = G.map (·.1) ++ fr (G.map (·.1)) (xs.map key)
  | [], G => (List.append_nil _).symm
  | x :: xs, G => by
    show (foldG key val xs (putG G (key x) (val x))).map (·.1) = _
    rw [foldG_keys xs, putG_keys, List.map_cons]
    conv => rhs; unfold fr
    split
    · rfl
    · rw [List.append_assoc]; rfl
end
end K61
set_option Elab.async false
set_option linter.all false
set_option maxRecDepth 100000
namespace K61
open PySem PySem.Spec PyProof.Rows L2 Kw El Kw.Dh
abbrev fY (xs : List Int) (G : List (Int × Bool)) : List (Int × Bool) := foldG (fun i : Int => i) (fun _ => true) xs G
theorem acc2_yes {E : Int → List Int} {mi : IM} {i j : Nat} {δ : Sv} {μ : Mem} : ∀ (ps : List Int) (G : List (Int × Bool)), G.length + 12 * ps.length ≤ 1000000 → (∀ p ∈ ps, (E p).length ≤ 12 ∧ mi (δ.set i (some (.int p))) μ = .ok ((E p).map D.int) μ) → (∀ p y, (((wipeD (δ.set i (some (.int p))) [j]).set j (some (.int y)))[j]?).join = some (.int y)) → (∀ δ' : Sv, ∀ y : Int, (δ'[j]?).join = some (.int y) → eVar j δ' μ = .ok (.int y) μ) →
    accL (gNm i) tYesM (acc2 mi (gNm j) tYesM [j] (accD (eVar j) (eC (.bl true)))) δ (ps.map D.int) (dE D.bl G) μ = .ok (dE D.bl (ps.foldl (fun G p => fY (E p) G) G)) μ
  | [], G, _, _, _, _ => rfl
  | p :: ps, G, hs, h, hj, hv => by
    obtain ⟨h1, h2⟩ := h p (.head _)
    rw [List.length_cons] at hs
    have a := accD_gen (ev := D.bl) (e := D.int) (δ := wipeD (δ.set i (some (.int p))) [j]) (μ := μ) (i := j) (mk := eVar j) (mv := eC (.bl true)) (key := fun i : Int => i) (val := fun _ => true) (E p) G (by omega) fun y _ => ⟨hv _ _ (hj p y), rfl⟩
    have ln := foldG_len (key := fun i : Int => i) (val := fun _ => true) (E p) G
    rw [List.map_cons]
    unfold accL
    simp only [gNm_run, tYes_run, acc2, h2, a]
    exact acc2_yes ps _ (by show (fY (E p) G).length + _ ≤ _; have : (fY (E p) G).length ≤ G.length + (E p).length := ln; omega) (fun q hq => h q (.tail _ hq)) hj hv
end K61
set_option Elab.async false
set_option linter.all false
set_option maxRecDepth 100000
namespace K61
open PySem PySem.Spec PyProof.Rows L2 Kw El Kw.Dh
def nd2 : EM := (eDc2 (iSeq (e2 gIxD (eVar 0) (eVar 5))) (gNm 6) tYesM (iSeq (eCallP f_elders (aCons (eVar 0) (aCons (eVar 6) aNil)))) (gNm 7) tYesM (eVar 7) (eC (.bl true)) [6, 7] [7])
section
variable {b : Bool} {G : Lk} {c : Int}
theorem nd2_run (W : Web G) (hc : c ∈ keysG G) {s1 s2 s3 s4 : Option D} (o6 o7 : Option D) : ∃ E : Int → List Int, (∀ p ∈ lnk G c, IsE G p (E p)) ∧ ∀ μ, nd2 [some (pG b G), s1, s2, s3, s4, some (.int c), o6, o7] μ = .ok (.loc μ.length) (μ ++ [.dct (dE D.bl ((lnk G c).foldl (fun G p => fY (E p) G) []))]) := by
  have ex : ∀ p, ∃ R, p ∈ keysG G → IsE G p R ∧ ∀ μ, callP f_elders [pG b G, .int p] μ = .ok (oT R) μ := fun p => by
    by_cases h : p ∈ keysG G
    · obtain ⟨R, h1, h2⟩ := elders_run (b := b) W h
      exact ⟨R, fun _ => ⟨h1, h2⟩⟩
    · exact ⟨[], fun q => absurd q h⟩
  obtain ⟨E, hE⟩ := Classical.axiomOfChoice ex
  have hl : ∀ p ∈ lnk G c, p ∈ keysG G := fun p hp => (W.link hc hp).1
  refine ⟨E, fun p hp => (hE p (hl p hp)).1, fun μ => ?_⟩
  have f2 : (lnk G c).length ≤ 12 := (W.ln _ (lnk_in hc)).1
  have v : ∀ μ, vOf (some (some (pG b G))) μ = .ok (pG b G) μ := fun _ => rfl
  have ix := pG_ix (b := b) (μ := μ) hc
  have sv := sqI_seq (b := b) (xs := lnk G c)
  have it : iSeq (e2 gIxD (eVar 0) (eVar 5)) [some (pG b G), s1, s2, s3, s4, some (.int c), o6, o7] μ = .ok ((lnk G c).map D.int) μ := by
    generalize pG b G = t at *
    generalize sqI b (lnk G c) = u at *
    simp [eVar_run, v, ix, sv]
  have a := acc2_yes (E := E) (mi := iSeq (eCallP f_elders (aCons (eVar 0) (aCons (eVar 6) aNil)))) (i := 6) (j := 7) (δ := [some (pG b G), s1, s2, s3, s4, some (.int c), none, none]) (μ := μ) (lnk G c) [] (by simp; omega) (fun p hp => ⟨isE_few W (hl p hp) (hE p (hl p hp)).1, by
    have e := (hE p (hl p hp)).2
    show iSeq _ [some (pG b G), s1, s2, s3, s4, some (.int c), some (.int p), none] μ = _
    generalize pG b G = t at *
    simp [eVar_run, v, e]⟩) (fun p y => rfl) (fun δ' y h => by
    cases q : δ'[7]? with
    | none => rw [q] at h; cases h
    | some o =>
      rw [q] at h
      have h : o = some (.int y) := h
      rw [eVar_run, q, h]; rfl)
  unfold nd2 eDc2
  rw [eAcc_run, it, bind_ok]
  rw [dE_nil] at a
  rw [show wipeD [some (pG b G), s1, s2, s3, s4, some (.int c), o6, o7] [6, 7] = [some (pG b G), s1, s2, s3, s4, some (.int c), none, none] from rfl, a]
end
end K61
set_option Elab.async false
set_option linter.all false
set_option maxRecDepth 100000
namespace K61
open PySem PySem.Spec PyProof.Rows L2 Kw El Kw.Dh
abbrev gat (E : Int → List Int) (ps : List Int) (G : List (Int × Bool)) : List (Int × Bool) := ps.foldl (fun G p => fY (E p) G) G
theorem fY_keys (xs : List Int) (G : List (Int × Bool)) : (fY xs G).map (·.1) = G.map (·.1) ++ fr (G.map (·.1)) xs := by
  have := foldG_keys (key := fun i : Int => i) (val := fun _ => true) xs G
  rwa [List.map_id'] at this
theorem gat_mem {E : Int → List Int} : ∀ (ps : List Int) (G : List (Int × Bool)) (z : Int), z ∈ (gat E ps G).map (·.1) ↔ z ∈ G.map (·.1) ∨ ∃ p ∈ ps, z ∈ E p
  | [], G, z => by simp [gat]
  | p :: ps, G, z => by
    show z ∈ (gat E ps (fY (E p) G)).map (·.1) ↔ _
    rw [gat_mem ps, fY_keys, fr_mem, or_assoc]
    refine or_congr Iff.rfl ⟨?_, ?_⟩
    · rintro (h | ⟨q, hq, h⟩)
      · exact ⟨p, .head _, h⟩
      · exact ⟨q, .tail _ hq, h⟩
    · rintro ⟨q, hq, h⟩
      rcases List.mem_cons.mp hq with rfl | hq
      · exact .inl h
      · exact .inr ⟨q, hq, h⟩
theorem gat_nodup {E : Int → List Int} : ∀ (ps : List Int) (G : List (Int × Bool)), (G.map (·.1)).Nodup → ((gat E ps G).map (·.1)).Nodup
  | [], G, h => h
  | p :: ps, G, h => gat_nodup ps _ (by rw [fY_keys]; exact fr_nodup _ _ h)
end K61
set_option Elab.async false
set_option linter.all false
set_option maxRecDepth 100000
namespace K61
open PySem PySem.Spec PyProof.Rows L2 Kw El Kw.Dh
section
variable {b : Bool} {G : Lk} {c : Int}
theorem upd_run (W : Web G) (hc : c ∈ keysG G) {s1 s2 s3 : Option D} (o6 o7 : Option D) : ∃ E : Int → List Int, (∀ p ∈ lnk G c, IsE G p (E p)) ∧ ∀ (A : List (Int × Bool)) (J : Mem), A.length + (gat E (lnk G c) []).length ≤ 1000000 → eUpd (eVar 4) nd2 [some (pG b G), s1, s2, s3, some (.loc 0), some (.int c), o6, o7] (.dct (dE D.bl A) :: J) = .ok .non (.dct (dE D.bl (foldG (fun p : Int × Bool => p.1) (fun p => p.2) (gat E (lnk G c) []) A)) :: (J ++ [.dct (dE D.bl (gat E (lnk G c) []))])) := by
  obtain ⟨E, h, e⟩ := nd2_run (b := b) (s1 := s1) (s2 := s2) (s3 := s3) (s4 := some (.loc 0)) W hc o6 o7
  refine ⟨E, h, fun A J hs => ?_⟩
  have e := e (.dct (dE D.bl A) :: J)
  have g1 : (Ob.dct (dE D.bl A) :: J ++ [Ob.dct (dE D.bl (gat E (lnk G c) []))] : Mem)[J.length + 1]? = some (.dct (dE D.bl (gat E (lnk G c) []))) := by simp
  have g2 := dctOf_loc g1
  have sz : (0 : Nat) ≠ J.length + 1 ∧ (dE D.bl A).length + (dE D.bl (gat E (lnk G c) [])).length ≤ sizeLine := ⟨by omega, by rw [dE_len, dE_len]; show _ ≤ 2 ^ 24; omega⟩
  rw [eUpd_run, show eVar 4 [some (pG b G), s1, s2, s3, some (.loc 0), some (.int c), o6, o7] (.dct (dE D.bl A) :: J) = .ok (.loc 0) (.dct (dE D.bl A) :: J) from rfl, bind_ok, if_pos (show (dctOf (.dct (dE D.bl A) :: J) (.loc 0)).isSome = true from rfl), e, bind_ok]
  show (match (motive := Option Ob → Option (List (D × D)) → Out D) some (Ob.dct (dE D.bl A)), dctOf (Ob.dct (dE D.bl A) :: J ++ [Ob.dct (dE D.bl (gat E (lnk G c) []))]) (D.loc (J.length + 1)) with
    | some (.dct kvs), some more => if (0 : Nat) ≠ J.length + 1 ∧ kvs.length + more.length ≤ sizeLine then Out.ok D.non ((Ob.dct (dE D.bl A) :: J ++ [Ob.dct (dE D.bl (gat E (lnk G c) []))] : Mem).set 0 (Ob.dct (mergeKD kvs more))) else .stuck
    | _, _ => .stuck) = _
  rw [g2]
  simp only [if_pos sz, merge_fold]
  rfl
end
end K61
set_option Elab.async false
set_option linter.all false
set_option maxRecDepth 100000
namespace K61
open PySem PySem.Spec PyProof.Rows L2 Kw El Kw.Dh
def IsN (G : Lk) (C N : List Int) : Prop := N.Pairwise (· < ·) ∧ ∀ y, y ∈ N ↔ y ∈ C ∧ ¬ Far G C y
theorem IsN.eq {G : Lk} {C N N' : List Int} (h : IsN G C N) (h' : IsN G C N') : N = N' := lt_mem_eq h.1 h'.1 fun z => (h.2 z).trans (h'.2 z).symm
def nb1 : SM := (sDrop (eUpd (eVar 4) nd2))
def nr1 : SM := (sAsg (eCallP f_common_elders (aCons (eVar 0) (aCons (eVar 1) (aCons (eVar 2) aNil)))) (gNm 3))
def nr4 : SM := (sRet (eAs gTuple (aCons (eLc (iSeq (eVar 3)) (gNm 5) (tBl (e2 gNinD (eVar 5) (eVar 4))) (eVar 5) [5]) aNil)))
theorem nr_f : m_nearest_common = sSeq nr1 (sSeq (sAsg eNewD (gNm 4)) (sSeq (sFor (iSeq (eVar 3)) (gNm 5) nb1) nr4)) := rfl
section
variable {b : Bool} {G : Lk} {x y : Int}
theorem far_cons (G : Lk) (c : Int) (cs : List Int) (z : Int) : Far G (c :: cs) z ↔ (∃ p ∈ lnk G c, Up G p z) ∨ Far G cs z := by
  unfold Far
  constructor
  · rintro ⟨d, hd, h⟩
    rcases List.mem_cons.mp hd with rfl | hd
    · exact .inl h
    · exact .inr ⟨d, hd, h⟩
  · rintro (h | ⟨d, hd, h⟩)
    · exact ⟨c, .head _, h⟩
    · exact ⟨d, .tail _ hd, h⟩
theorem nr_loop (W : Web G) {s1 s2 s3 : Option D} : ∀ (cs : List Int) (A : List (Int × Bool)) (J : Mem) (o5 o6 o7 : Option D), (∀ c ∈ cs, c ∈ keysG G) → (A.map (·.1)).Nodup → (∀ z ∈ A.map (·.1), z ∈ keysG G) →
    ∃ A' J' p5, loopS (gNm 5) nb1 (cs.map D.int) [some (pG b G), s1, s2, s3, some (.loc 0), o5, o6, o7] (.dct (dE D.bl A) :: J) = .nx [some (pG b G), s1, s2, s3, some (.loc 0), p5, o6, o7] (.dct (dE D.bl A') :: J') ∧ ∀ z, z ∈ A'.map (·.1) ↔ z ∈ A.map (·.1) ∨ Far G cs z
  | [], A, J, o5, o6, o7, _, _, _ => ⟨A, J, o5, rfl, fun z => ⟨.inl, fun h => h.elim id fun ⟨c, hc, _⟩ => nomatch hc⟩⟩
  | c :: cs, A, J, o5, o6, o7, hk, nd, sb => by
    have hc := hk c (.head _)
    obtain ⟨E, hE, e⟩ := upd_run (b := b) (s1 := s1) (s2 := s2) (s3 := s3) W hc o6 o7
    have hl : ∀ p ∈ lnk G c, p ∈ keysG G := fun p hp => (W.link hc hp).1
    have few := W.few
    have kl : (keysG G).length = G.length := List.length_map _
    have n1 : ((gat E (lnk G c) []).map (·.1)).Nodup := gat_nodup _ _ (by simp)
    have s1' : ∀ z ∈ (gat E (lnk G c) []).map (·.1), z ∈ keysG G := fun z hz => by
      rcases (gat_mem _ _ _).mp hz with h | ⟨p, hp, h⟩
      · simp at h
      · exact isE_sub W (hl p hp) (hE p hp) z h
    have l1 := sub_len nd sb
    have l2 := sub_len n1 s1'
    rw [List.length_map] at l1 l2
    have e := e A J (by omega)
    let A1 := foldG (fun p : Int × Bool => p.1) (fun p => p.2) (gat E (lnk G c) []) A
    have k1 : A1.map (·.1) = A.map (·.1) ++ fr (A.map (·.1)) ((gat E (lnk G c) []).map (·.1)) := foldG_keys _ _
    have m1 : ∀ z, z ∈ A1.map (·.1) ↔ z ∈ A.map (·.1) ∨ ∃ p ∈ lnk G c, Up G p z := fun z => by
      rw [k1, fr_mem, gat_mem]
      refine or_congr Iff.rfl ⟨?_, ?_⟩
      · rintro (h | ⟨p, hp, h⟩)
        · simp at h
        · exact ⟨p, hp, ((hE p hp).2 z).mp h⟩
      · rintro ⟨p, hp, h⟩
        exact .inr ⟨p, hp, ((hE p hp).2 z).mpr h⟩
    have t : nb1 [some (pG b G), s1, s2, s3, some (.loc 0), some (.int c), o6, o7] (.dct (dE D.bl A) :: J) = .nx [some (pG b G), s1, s2, s3, some (.loc 0), some (.int c), o6, o7] (.dct (dE D.bl A1) :: (J ++ [.dct (dE D.bl (gat E (lnk G c) []))])) := by
      unfold nb1
      rw [sDrop_run, e]; rfl
    obtain ⟨A', J', p5, e2, h2⟩ := nr_loop W cs A1 (J ++ [.dct (dE D.bl (gat E (lnk G c) []))]) (some (.int c)) o6 o7 (fun d hd => hk d (.tail _ hd)) (by rw [k1]; exact fr_nodup _ _ nd) (fun z hz => by
      rcases (m1 z).mp hz with h | ⟨p, hp, h⟩
      · exact sb z h
      · exact (h.key W (hl p hp)).1)
    refine ⟨A', J', p5, ?_, fun z => ?_⟩
    · rw [List.map_cons, loopS_nx (show gNm 5 (.int c) [some (pG b G), s1, s2, s3, some (.loc 0), o5, o6, o7] _ = .nx [some (pG b G), s1, s2, s3, some (.loc 0), some (.int c), o6, o7] _ from rfl) t]
      exact e2
    · rw [h2, m1, far_cons, or_assoc]
theorem near_run (W : Web G) (hx : x ∈ keysG G) (hy : y ∈ keysG G) : ∃ R R' N, IsE G x R ∧ IsE G y R' ∧ IsN G (comm R R') N ∧ (∀ z ∈ N, z ∈ keysG G) ∧ ∀ μ, callP f_nearest_common [pG b G, .int x, .int y] μ = .ok (oT N) μ := by
  obtain ⟨R, R', h, h', e⟩ := common_run (b := b) W hx hy
  have v : ∀ μ, vOf (some (some (pG b G))) μ = .ok (pG b G) μ := fun _ => rfl
  have ck : ∀ c ∈ comm R R', c ∈ keysG G := fun c hc => isE_sub W hx h c (List.mem_filter.mp hc).1
  have few := isE_few W hx h
  have cl : (comm R R').length ≤ 12 := Nat.le_trans (List.length_filter_le _ _) few
  obtain ⟨A, J, p5, te, h2⟩ := nr_loop (b := b) (s1 := some (.int x)) (s2 := some (.int y)) (s3 := some (oT (comm R R'))) W (comm R R') [] [] none none none ck (by simp) (by simp)
  obtain ⟨N, eN⟩ : ∃ N, N = (comm R R').filter fun z => !decide (z ∈ A.map (·.1)) := ⟨_, rfl⟩
  have iN : IsN G (comm R R') N := ⟨by rw [eN]; exact (h.1.filter _).filter _, fun z => by
    rw [eN, List.mem_filter, Bool.not_eq_true', decide_eq_false_iff_not, h2]
    simp⟩
  refine ⟨R, R', N, h, h', iN, fun z hz => ck z ((iN.2 z).mp hz).1, fun μ => ?_⟩
  have lc : lcL (gNm 5) (tBl (e2 gNinD (eVar 5) (eVar 4))) (eVar 5) (wipeD [some (pG b G), some (.int x), some (.int y), some (oT (comm R R')), some (.loc 0), p5, none, none] [5]) ((comm R R').map D.int) (.dct (dE D.bl A) :: J) = .ok (N.map D.int) (.dct (dE D.bl A) :: J) := by
    rw [eN]
    refine lcL_filt (e := D.int) (t := fun z => !decide (z ∈ A.map (·.1))) (f := D.int) (comm R R') ?_
    intro a _
    refine ⟨?_, fun _ => rfl⟩
    have := ninD_run (e := D.bl) (G := A) (k := a) (μ := .dct (dE D.bl A) :: J) (x := .loc 0) (dctOf_loc rfl)
    show tBl (e2 gNinD (eVar 5) (eVar 4)) [some (pG b G), some (.int x), some (.int y), some (oT (comm R R')), some (.loc 0), some (.int a), none, none] (.dct (dE D.bl A) :: J) = _
    generalize pG b G = t at *
    generalize oT (comm R R') = t2 at *
    generalize (.dct (dE D.bl A) :: J : Mem) = m at *
    simp [eVar_run, this]
  have ll : (N.map D.int).length ≤ sizeLine := by
    rw [List.length_map]
    have : N.length ≤ (comm R R').length := by rw [eN]; exact List.length_filter_le _ _
    show _ ≤ 2 ^ 24
    omega
  have t1 : nr1 [some (pG b G), some (.int x), some (.int y), none, none, none, none, none] [] = .nx [some (pG b G), some (.int x), some (.int y), some (oT (comm R R')), none, none, none, none] [] := by
    unfold nr1
    generalize pG b G = t at *
    simp [eVar_run, v, e]
  have t2 : sAsg eNewD (gNm 4) [some (pG b G), some (.int x), some (.int y), some (oT (comm R R')), none, none, none, none] [] = .nx [some (pG b G), some (.int x), some (.int y), some (oT (comm R R')), some (.loc 0), none, none, none] [.dct (dE D.bl [])] := rfl
  have t3 : sFor (iSeq (eVar 3)) (gNm 5) nb1 [some (pG b G), some (.int x), some (.int y), some (oT (comm R R')), some (.loc 0), none, none, none] [.dct (dE D.bl [])] = .nx [some (pG b G), some (.int x), some (.int y), some (oT (comm R R')), some (.loc 0), p5, none, none] (.dct (dE D.bl A) :: J) := by
    rw [sFor_run, show iSeq (eVar 3) [some (pG b G), some (.int x), some (.int y), some (oT (comm R R')), some (.loc 0), none, none, none] [.dct (dE D.bl [])] = .ok ((comm R R').map D.int) [.dct (dE D.bl [])] from rfl, bindS_ok]
    exact te
  have t4 : nr4 [some (pG b G), some (.int x), some (.int y), some (oT (comm R R')), some (.loc 0), p5, none, none] (.dct (dE D.bl A) :: J) = .ret (oT N) (.dct (dE D.bl A) :: J) := by
    have el : eLc (iSeq (eVar 3)) (gNm 5) (tBl (e2 gNinD (eVar 5) (eVar 4))) (eVar 5) [5] [some (pG b G), some (.int x), some (.int y), some (oT (comm R R')), some (.loc 0), p5, none, none] (.dct (dE D.bl A) :: J) = .ok (oL N) (.dct (dE D.bl A) :: J) := by
      rw [eLc_run, show iSeq (eVar 3) [some (pG b G), some (.int x), some (.int y), some (oT (comm R R')), some (.loc 0), p5, none, none] (.dct (dE D.bl A) :: J) = .ok ((comm R R').map D.int) (.dct (dE D.bl A) :: J) from rfl, bind_ok, lc]
      simp only [if_pos ll]
    have k3 : ∀ μ, gTuple [oL N] μ = some (oT N) := fun _ => rfl
    unfold nr4
    generalize pG b G = t at *
    generalize oT (comm R R') = t2 at *
    generalize oL N = t3 at *
    generalize (.dct (dE D.bl A) :: J : Mem) = m at *
    generalize (eLc (iSeq (eVar 3)) (gNm 5) (tBl (e2 gNinD (eVar 5) (eVar 4))) (eVar 5) [5]) = q at *
    simp [el, k3]
  exact callP_ok (μ' := .dct (dE D.bl A) :: J) (body_ret (δ := [some (pG b G), some (.int x), some (.int y), none, none, none, none, none]) rfl ((congrFun (congrFun nr_f _) _).trans <| (seq_nx t1).trans <| (seq_nx t2).trans <| (seq_nx t3).trans t4)) (pG_ls rfl) (by show locBs false 0 _ = true; exact loc_ints _ _ _)
theorem common_exc2 {d2 : D} {f : Xn} (W : Web G) (hx : x ∈ keysG G) (v2 : ∀ μ, vOf (some (some d2)) μ = .ok d2 μ) (hd : locBs false 0 [pG b G, .int x, d2] = true) (hf : locBs false 0 (f.fs.map (·.2)) = true) (er : ∀ μ, callP f_elders [pG b G, d2] μ = .exc f μ) (μ : Mem) : callP f_common_elders [pG b G, .int x, d2] μ = .exc f μ := by
  have v : ∀ μ, vOf (some (some (pG b G))) μ = .ok (pG b G) μ := fun _ => rfl
  obtain ⟨R, h, e⟩ := elders_run (b := b) W hx
  have s1 : sAsg (eCallP f_elders (aCons (eVar 0) (aCons (eVar 1) aNil))) (gNm 3) [some (pG b G), some (.int x), some d2, none, none, none] [] = .nx [some (pG b G), some (.int x), some d2, some (oT R), none, none] [] := by
    generalize pG b G = t at *
    simp [eVar_run, v, e]
  have s2 : ce2 [some (pG b G), some (.int x), some d2, some (oT R), none, none] [] = .exc f [some (pG b G), some (.int x), some d2, some (oT R), none, none] [] := by
    have it : iSeq (eCallP f_elders (aCons (eVar 0) (aCons (eVar 2) aNil))) [some (pG b G), some (.int x), some d2, some (oT R), none, none] [] = .exc f [] := by
      generalize pG b G = t at *
      simp [eVar_run, v, v2, er]
    unfold ce2 eDc
    rw [sAsg_run, eAcc_run, it]; rfl
  refine callP_exc (μ' := []) (body_exc (δ := [some (pG b G), some (.int x), some d2, none, none, none]) (δ' := [some (pG b G), some (.int x), some d2, some (oT R), none, none]) rfl ?_) hd hf
  refine (seq_nx s1).trans ?_
  unfold sSeq
  show (ce2 _ _).then _ = _
  rw [s2]; rfl
theorem near_exc {d d2 : D} {f : Xn} (v1 : ∀ μ, vOf (some (some d)) μ = .ok d μ) (v2 : ∀ μ, vOf (some (some d2)) μ = .ok d2 μ) (hd : locBs false 0 [pG b G, d, d2] = true) (hf : locBs false 0 (f.fs.map (·.2)) = true) (er : ∀ μ, callP f_common_elders [pG b G, d, d2] μ = .exc f μ) (μ : Mem) : callP f_nearest_common [pG b G, d, d2] μ = .exc f μ := by
  have v : ∀ μ, vOf (some (some (pG b G))) μ = .ok (pG b G) μ := fun _ => rfl
  have s1 : nr1 [some (pG b G), some d, some d2, none, none, none, none, none] [] = .exc f [some (pG b G), some d, some d2, none, none, none, none, none] [] := by
    unfold nr1
    generalize pG b G = t at *
    simp [eVar_run, v, v1, v2, er]
  refine callP_exc (μ' := []) (body_exc (δ := [some (pG b G), some d, some d2, none, none, none, none, none]) (δ' := [some (pG b G), some d, some d2, none, none, none, none, none]) rfl ((congrFun (congrFun nr_f _) _).trans ?_)) hd hf
  unfold sSeq
  rw [s1]; rfl
end
end K61
set_option Elab.async false
set_option linter.all false
set_option maxRecDepth 100000
namespace El
open Kw (lstLt lowT)
abbrev ltI : Int → Int → Bool := fun i j => decide (i < j)
def llt (a b : List Int) : Prop := lstLt ltI a b = true
def LS (a b : List Int) : Prop := a.length < b.length ∨ (a.length = b.length ∧ llt a b)
def LL (a b : List Int) : Prop := a = b ∨ LS a b
theorem llt_cons {x y : Int} {a b : List Int} : llt (x :: a) (y :: b) ↔ (x = y ∧ llt a b) ∨ x < y := by
  unfold llt
  rw [lstLt]
  by_cases h : x = y
  · rw [if_pos h]
    exact ⟨fun q => .inl ⟨h, q⟩, fun q => q.elim (fun q => q.2) fun q => by omega⟩
  · rw [if_neg h, decide_eq_true_eq]
    exact ⟨.inr, fun q => q.elim (fun q => absurd q.1 h) id⟩
theorem llt_irr : ∀ a : List Int, ¬ llt a a
  | [], h => by cases h
  | x :: a, h => by
    rcases llt_cons.mp h with ⟨_, q⟩ | q
    · exact llt_irr a q
    · omega
theorem llt_trans : ∀ {a b c : List Int}, a.length = b.length → b.length = c.length → llt a b → llt b c → llt a c
  | [], [], _, _, _, h, _ => by cases h
  | x :: a, y :: b, z :: c, h1, h2, h3, h4 => by
    rcases llt_cons.mp h3 with ⟨rfl, q⟩ | q <;> rcases llt_cons.mp h4 with ⟨rfl, q2⟩ | q2
    · exact llt_cons.mpr (.inl ⟨rfl, llt_trans (Nat.succ.inj h1) (Nat.succ.inj h2) q q2⟩)
    · exact llt_cons.mpr (.inr q2)
    · exact llt_cons.mpr (.inr q)
    · exact llt_cons.mpr (.inr (by omega))
theorem llt_tri : ∀ {a b : List Int}, a.length = b.length → llt a b ∨ a = b ∨ llt b a
  | [], [], _ => .inr (.inl rfl)
  | x :: a, y :: b, h => by
    rcases Int.lt_trichotomy x y with c | c | c
    · exact .inl (llt_cons.mpr (.inr c))
    · subst c
      rcases llt_tri (Nat.succ.inj h) with q | q | q
      · exact .inl (llt_cons.mpr (.inl ⟨rfl, q⟩))
      · exact .inr (.inl (by rw [q]))
      · exact .inr (.inr (llt_cons.mpr (.inl ⟨rfl, q⟩)))
    · exact .inr (.inr (llt_cons.mpr (.inr c)))
theorem llt_app : ∀ {a b : List Int} (s t : List Int), a.length = b.length → llt a b → llt (a ++ s) (b ++ t)
  | [], [], s, t, _, h => by cases h
  | x :: a, y :: b, s, t, h1, h => by
    rw [List.cons_append, List.cons_append]
    rcases llt_cons.mp h with ⟨rfl, q⟩ | q
    · exact llt_cons.mpr (.inl ⟨rfl, llt_app s t (Nat.succ.inj h1) q⟩)
    · exact llt_cons.mpr (.inr q)
theorem llt_left : ∀ (a : List Int) {s t : List Int}, llt s t → llt (a ++ s) (a ++ t)
  | [], _, _, h => h
  | x :: a, _, _, h => llt_cons.mpr (.inl ⟨rfl, llt_left a h⟩)
theorem LS.trans {a b c : List Int} (h : LS a b) (h2 : LS b c) : LS a c := by
  rcases h with h | ⟨h, q⟩ <;> rcases h2 with h2 | ⟨h2, q2⟩
  · exact .inl (by omega)
  · exact .inl (by omega)
  · exact .inl (by omega)
  · exact .inr ⟨by omega, llt_trans h h2 q q2⟩
theorem LL.trans {a b c : List Int} (h : LL a b) (h2 : LL b c) : LL a c := by
  rcases h with rfl | h
  · exact h2
  · rcases h2 with rfl | h2
    · exact .inr h
    · exact .inr (h.trans h2)
theorem LS.app {a b s t : List Int} (h : LS a b) (hl : s.length ≤ t.length) : LS (a ++ s) (b ++ t) := by
  rcases h with h | ⟨h, q⟩
  · exact .inl (by rw [List.length_append, List.length_append]; omega)
  · rcases Nat.lt_or_eq_of_le hl with c | c
    · exact .inl (by rw [List.length_append, List.length_append]; omega)
    · exact .inr ⟨by rw [List.length_append, List.length_append]; omega, llt_app s t h q⟩
theorem LL.app {a b : List Int} (h : LL a b) (s : List Int) : LL (a ++ s) (b ++ s) := by
  rcases h with rfl | h
  · exact .inl rfl
  · exact .inr (h.app (Nat.le_refl _))
theorem LL.anti {a b : List Int} (h : LL a b) (h2 : LL b a) : a = b := by
  rcases h with h | h
  · exact h
  · rcases h2 with h2 | h2
    · exact h2.symm
    · have := h.trans h2
      rcases this with q | ⟨_, q⟩
      · exact absurd q (Nat.lt_irrefl _)
      · exact absurd q (llt_irr _)
/-- a way from x: the names behind it, and where it ends -/
def WayR (G : Lk) : Int → List Int → Int → Prop
  | x, [], e => x = e
  | x, y :: r, e => y ∈ lnk G x ∧ WayR G y r e
section
variable {G : Lk}
theorem WayR.app : ∀ {r : List Int} {x z y : Int}, WayR G x r z → y ∈ lnk G z → WayR G x (r ++ [y]) y
  | [], _, _, _, h, hy => by
    have h : _ = _ := h
    subst h; exact ⟨hy, rfl⟩
  | _ :: r, _, _, _, h, hy => ⟨h.1, WayR.app h.2 hy⟩
theorem WayR.unapp : ∀ {r : List Int} {x y e : Int}, WayR G x (r ++ [y]) e → e = y ∧ ∃ z, WayR G x r z ∧ y ∈ lnk G z
  | [], x, y, e, h => ⟨h.2.symm, x, rfl, h.1⟩
  | _ :: r, _, _, _, h => by
    obtain ⟨h1, z, h2, h3⟩ := WayR.unapp h.2
    exact ⟨h1, z, ⟨h.1, h2⟩, h3⟩
theorem WayR.up : ∀ {r : List Int} {x e : Int}, WayR G x r e → Up G x e
  | [], _, _, h => by
    have h : _ = _ := h
    subst h; exact .rf
  | _ :: r, _, _, h => Up.of_link h.1 (WayR.up h.2)
theorem Up.way {x e : Int} (h : Up G x e) : ∃ r, WayR G x r e := by
  induction h with
  | rf => exact ⟨[], rfl⟩
  | st _ hz ih =>
    obtain ⟨r, h⟩ := ih
    exact ⟨_, h.app hz⟩
theorem WayR.rank (W : Web G) : ∀ {r : List Int} {x e : Int}, x ∈ keysG G → WayR G x r e → r.length + rk G e ≤ rk G x ∧ e ∈ keysG G
  | [], _, _, hx, h => by
    have h : _ = _ := h
    subst h; exact ⟨by simp, hx⟩
  | y :: r, x, _, hx, h => by
    obtain ⟨k1, k2⟩ := W.link hx h.1
    obtain ⟨i1, i2⟩ := WayR.rank W k1 h.2
    rw [List.length_cons]
    exact ⟨by omega, i2⟩
end
abbrev Pa := List (Int × List Int)
def keysP (F : Pa) : List Int := F.map (·.1)
def adP (F : Pa) (p : List Int) (ys : List Int) : Pa := F ++ (fr (keysP F) ys).map fun y => (y, p ++ [y])
structure BI (G : Lk) (x : Int) (F : Pa) (at_ : Nat) : Prop where
  nd : (keysP F).Nodup
  hd : F[0]? = some (x, [x])
  way : ∀ c ∈ F, ∃ r, c.2 = x :: r ∧ WayR G x r c.1
  srt : F.Pairwise fun a b => LS a.2 b.2
  src : ∀ c ∈ F, c = (x, [x]) ∨ ∃ i u p, i < at_ ∧ F[i]? = some (u, p) ∧ c.2 = p ++ [c.1]
  cl : ∀ i z q, i < at_ → F[i]? = some (z, q) → ∀ y ∈ lnk G z, ∃ q', (y, q') ∈ F ∧ LL q' (q ++ [y])
theorem BI.start (G : Lk) (x : Int) : BI G x [(x, [x])] 0 := ⟨by simp [keysP], rfl, fun c h => by
  rw [List.mem_singleton.mp h]; exact ⟨[], rfl, rfl⟩, by simp, fun c h => .inl (List.mem_singleton.mp h), fun i z q h => absurd h (by omega)⟩
theorem fr_sub : ∀ (ys F : List Int), (fr F ys).Sublist ys
  | [], F => .slnil
  | y :: ys, F => by
    unfold fr
    split
    · exact (fr_sub ys F).cons y
    · exact (fr_sub ys _).cons₂ y
theorem keysP_ad (F : Pa) (p ys : List Int) : keysP (adP F p ys) = keysP F ++ fr (keysP F) ys := by
  unfold adP keysP
  rw [List.map_append, List.map_map]
  congr 1
  exact List.map_id' _
theorem pw_at {α : Type} {R : α → α → Prop} {l : List α} (h : l.Pairwise R) {i j : Nat} {a b : α} (hij : i < j) (ha : l[i]? = some a) (hb : l[j]? = some b) : R a b := by
  obtain ⟨h1, rfl⟩ := List.getElem?_eq_some_iff.mp ha
  obtain ⟨h2, rfl⟩ := List.getElem?_eq_some_iff.mp hb
  exact List.pairwise_iff_getElem.mp h i j h1 h2 hij
theorem BI.step {G : Lk} {x u : Int} {p ys : List Int} {F : Pa} {at_ : Nat} (h : BI G x F at_) (hu : F[at_]? = some (u, p)) (hy : ys.Pairwise (· < ·)) (hm : ∀ y, y ∈ ys ↔ y ∈ lnk G u) : BI G x (adP F p ys) (at_ + 1) := by
  have hlt : at_ < F.length := (List.getElem?_eq_some_iff.mp hu).1
  have hup : (u, p) ∈ F := List.mem_of_getElem? hu
  obtain ⟨ru, eru, wru⟩ := h.way _ hup
  have eru : p = x :: ru := eru
  have wru : WayR G x ru u := wru
  have old : ∀ {i c}, F[i]? = some c → (adP F p ys)[i]? = some c := fun {i c} e => by
    unfold adP
    rw [List.getElem?_append_left (List.getElem?_eq_some_iff.mp e).1]; exact e
  have back : ∀ {i c}, i < F.length → (adP F p ys)[i]? = some c → F[i]? = some c := fun {i c} hi e => by
    unfold adP at e
    rwa [List.getElem?_append_left hi] at e
  have less : ∀ c ∈ F, ∀ y, LS c.2 (p ++ [y]) := fun c hc y => by
    rcases h.src c hc with rfl | ⟨i, u', p', hi, e1, e2⟩
    · exact .inl (by rw [eru]; simp)
    · rw [e2]
      exact (pw_at h.srt hi e1 hu).app (Nat.le_refl _)
  refine ⟨?_, old h.hd, fun c hc => ?_, ?_, fun c hc => ?_, fun i z q hi e y hy' => ?_⟩
  · rw [keysP_ad]; exact fr_nodup _ _ h.nd
  · rcases List.mem_append.mp hc with q | q
    · exact h.way c q
    · obtain ⟨y, h1, rfl⟩ := List.mem_map.mp q
      refine ⟨ru ++ [y], by rw [eru]; rfl, ?_⟩
      exact wru.app ((hm y).mp ((fr_sub _ _).subset h1))
  · unfold adP
    rw [List.pairwise_append]
    refine ⟨h.srt, ?_, fun a ha b hb => ?_⟩
    · rw [List.pairwise_map]
      refine (List.Pairwise.sublist (fr_sub _ _) hy).imp fun {a b} hab => ?_
      exact .inr ⟨by simp, llt_left p (llt_cons.mpr (.inr hab))⟩
    · obtain ⟨y, _, rfl⟩ := List.mem_map.mp hb
      exact less a ha y
  · rcases List.mem_append.mp hc with q | q
    · rcases h.src c q with q | ⟨i, u', p', hi, e1, e2⟩
      · exact .inl q
      · exact .inr ⟨i, u', p', by omega, old e1, e2⟩
    · obtain ⟨y, _, rfl⟩ := List.mem_map.mp q
      exact .inr ⟨at_, u, p, by omega, old hu, rfl⟩
  · by_cases c : i < at_
    · obtain ⟨q', h1, h2⟩ := h.cl i z q c (back (by omega) e) y hy'
      exact ⟨q', List.mem_append_left _ h1, h2⟩
    · have : i = at_ := by omega
      subst this
      have := back hlt e
      rw [hu] at this
      cases this
      by_cases hk : y ∈ keysP F
      · obtain ⟨c, hc, rfl⟩ := List.mem_map.mp hk
        exact ⟨c.2, List.mem_append_left _ hc, .inr (less c hc _)⟩
      · have : y ∈ fr (keysP F) ys := by
          have := (fr_mem ys (keysP F) y).mpr (.inr ((hm y).mpr hy'))
          exact (List.mem_append.mp this).resolve_left hk
        exact ⟨p ++ [y], List.mem_append_right _ (List.mem_map.mpr ⟨y, this, rfl⟩), .inl rfl⟩
theorem key_path {F : Pa} (nd : (keysP F).Nodup) {e : Int} {P Q : List Int} (h : (e, P) ∈ F) (h2 : (e, Q) ∈ F) : P = Q := by
  have a := Kw.lookup_mem h nd
  have b := Kw.lookup_mem h2 nd
  rw [a] at b
  exact Option.some.inj b
theorem BI.reach {G : Lk} {x : Int} {F : Pa} {at_ : Nat} (h : BI G x F at_) {e : Int} : ∀ (r : List Int) (i : Nat) (z : Int) (q : List Int), F[i]? = some (z, q) → WayR G z r e →
    (∃ P, (e, P) ∈ F ∧ LL P (q ++ r)) ∨ ∃ j u p s, at_ ≤ j ∧ F[j]? = some (u, p) ∧ s ≠ [] ∧ LL (p ++ s) (q ++ r)
  | [], i, z, q, hi, w => by
    have w : z = e := w
    subst w
    exact .inl ⟨q, List.mem_of_getElem? hi, .inl (List.append_nil q).symm⟩
  | y :: r, i, z, q, hi, w => by
    by_cases c : i < at_
    · obtain ⟨q', h1, h2⟩ := h.cl i z q c hi y w.1
      obtain ⟨k, hk⟩ := List.mem_iff_getElem?.mp h1
      have h3 := h2.app r
      rw [List.append_assoc, List.singleton_append] at h3
      rcases BI.reach h r k y q' hk w.2 with ⟨P, a, b⟩ | ⟨j, u, p, s, a, b, c, d⟩
      · exact .inl ⟨P, a, b.trans h3⟩
      · exact .inr ⟨j, u, p, s, a, b, c, d.trans h3⟩
    · exact .inr ⟨i, z, q, y :: r, by omega, hi, by simp, .inl rfl⟩
theorem BI.least {G : Lk} {x e : Int} {F : Pa} {at_ : Nat} {P : List Int} (h : BI G x F at_) (hP : (e, P) ∈ F) {r : List Int} (w : WayR G x r e) : LL P (x :: r) := by
  rcases h.reach r 0 x [x] h.hd w with ⟨Q, h1, h2⟩ | ⟨j, u, p, s, h1, h2, h3, h4⟩
  · rw [key_path h.nd hP h1]; exact h2
  · refine LL.trans (.inr ?_) h4
    rcases h.src _ hP with q | ⟨i, u', p', hi, e1, e2⟩
    · have q2 : P = [x] := congrArg Prod.snd q
      obtain ⟨rp, a, b⟩ := h.way _ (List.mem_of_getElem? h2)
      have a : p = x :: rp := a
      refine .inl ?_
      rw [a, q2]
      have : 0 < s.length := List.length_pos_iff.mpr h3
      simp; omega
    · have e2 : P = p' ++ [e] := e2
      rw [e2]
      have : 0 < s.length := List.length_pos_iff.mpr h3
      exact (pw_at h.srt (by omega) e1 h2).app (by simp; omega)
theorem BI.noway {G : Lk} {x e : Int} {F : Pa} (h : BI G x F F.length) (he : e ∉ keysP F) (r : List Int) : ¬ WayR G x r e := fun w => by
  rcases h.reach r 0 x [x] h.hd w with ⟨Q, h1, _⟩ | ⟨j, u, p, s, h1, h2, _, _⟩
  · exact he (List.mem_map.mpr ⟨_, h1, rfl⟩)
  · have := (List.getElem?_eq_some_iff.mp h2).1
    omega
/-- what way_up tells -/
def Best (G : Lk) (x e : Int) : Option (List Int) → Prop
  | none => ∀ r, ¬ WayR G x r e
  | some P => (∃ r, P = x :: r ∧ WayR G x r e) ∧ ∀ r, WayR G x r e → LL P (x :: r)
theorem Best.eq {G : Lk} {x e : Int} : ∀ {o o' : Option (List Int)}, Best G x e o → Best G x e o' → o = o'
  | none, none, _, _ => rfl
  | none, some P, h, h' => by
    obtain ⟨r, _, w⟩ := h'.1
    exact absurd w (h r)
  | some P, none, h, h' => by
    obtain ⟨r, _, w⟩ := h.1
    exact absurd w (h' r)
  | some P, some P', h, h' => by
    obtain ⟨r, e1, w⟩ := h.1
    obtain ⟨r', e1', w'⟩ := h'.1
    have a := h.2 r' w'
    have b := h'.2 r w
    rw [← e1'] at a
    rw [← e1] at b
    rw [a.anti b]
theorem BI.best {G : Lk} {x e : Int} {F : Pa} {at_ : Nat} (h : BI G x F at_) (he : e ∈ keysP F ∨ at_ = F.length) : Best G x e (F.lookup e) := by
  by_cases c : e ∈ keysP F
  · obtain ⟨P, hP⟩ := Kw.lookup_some c
    rw [hP]
    have := Kw.mem_lookup hP
    obtain ⟨r, a, b⟩ := h.way _ this
    exact ⟨⟨r, a, b⟩, fun r w => h.least this w⟩
  · rw [Kw.lookup_none.mpr c]
    have := he.resolve_left c
    subst this
    exact fun r => h.noway c r
end El
set_option Elab.async false
set_option linter.all false
set_option maxRecDepth 100000
namespace K61
open PySem PySem.Spec PyProof.Rows L2 Kw El
def wc : TM := (tAndM (tBl (e2 gLt (eVar 5) (eAs gLen (aCons (eVar 4) aNil)))) (tBl (e2 gNinD (eVar 2) (eVar 3))))
def wi : SM := (sIf (tBl (e2 gNinD (eCallP f_need_there (aCons (eVar 0) (aCons (eVar 7) aNil))) (eVar 3))) (sSeq (sAsg (e2 gAdd (e2 gIxD (eVar 3) (eVar 6)) (eAs gTupD (aCons (eVar 7) aNil))) (gSubMD (eVar 3) (eVar 7))) (sDrop (eMtL gAppend (eVar 4) (aCons (eVar 7) aNil)))) sNext)
def wb1 : SM := (sAsg (e2 gIx (eVar 4) (eVar 5)) (gNm 6))
def wb2 : SM := (sAug 5 gAddJ (eC (.int 1)))
def wb3 : IM := (iSeq (eAs gSrt (aCons (eAs gList (aCons (e2 gIxD (eVar 0) (eVar 6)) aNil)) aNil)))
def wb : SM := sSeq wb1 (sSeq wb2 (sFor wb3 (gNm 7) wi))
def w1 : SM := (sAsg (eDispN (eCallP f_need_there (aCons (eVar 0) (aCons (eVar 1) aNil))) (eAs gTupD (aCons (eVar 1) aNil))) (gNm 3))
def w2 : SM := (sDrop (eCallP f_need_there (aCons (eVar 0) (aCons (eVar 2) aNil))))
def w3 : SM := (sAsg (eAsM gNewL (aCons (eVar 1) aNil)) (gNm 4))
def w4 : SM := (sAsg (eC (.int 0)) (gNm 5))
def w6 : SM := (sRet (eGet1 (eVar 3) (eVar 2)))
theorem wu_f : m_way_up = sSeq w1 (sSeq w2 (sSeq w3 (sSeq w4 (sSeq (sWhile (fun _ _ => 1000) wc wb) w6)))) := rfl
section
variable {b : Bool} {G : Lk} {x e : Int}
abbrev slW (b : Bool) (G : Lk) (x e : Int) (a : Nat) (o6 o7 : Option D) : Sv := [some (pG b G), some (.int x), some (.int e), some (.loc 0), some (.loc 1), some (.int (a : Int)), o6, o7]
abbrev mP (F : Pa) : Mem := [.dct (dE oT F), .lst ((keysP F).map D.int)]
theorem ad1 {p : List Int} {y : Int} (h : p.length ≤ 1000) (μ : Mem) : gAdd (oT p) (.tup [.int y]) μ = some (oT (p ++ [y])) := by
  have : gAdd (.tup (p.map D.int)) (.tup ([y].map D.int)) μ = some (.tup (p.map D.int ++ [y].map D.int)) := gAdd_tup (by simp only [List.length_map]; simp; omega)
  rw [← List.map_append] at this
  exact this
theorem keysP_len (F : Pa) : (keysP F).length = F.length := List.length_map _
theorem wi_run {F : Pa} {u y : Int} {p : List Int} {a : Nat} (hy : y ∈ keysG G) (hu : F.lookup u = some p) (hp : p.length ≤ 1000) (hF : F.length ≤ 1000) : wi (slW b G x e a (some (.int u)) (some (.int y))) (mP F) = .nx (slW b G x e a (some (.int u)) (some (.int y))) (mP (if y ∈ keysP F then F else F ++ [(y, p ++ [y])])) := by
  have v : ∀ μ, vOf (some (some (pG b G))) μ = .ok (pG b G) μ := fun _ => rfl
  have nr := need_run (b := b) hy
  have ni : gNinD (.int y) (.loc 0) (mP F) = some (.bl !(decide (y ∈ keysP F))) := ninD_run (e := oT) (G := F) (dctOf_loc rfl)
  have ln : (keysP F).length = F.length := keysP_len F
  by_cases c : y ∈ keysP F
  · rw [if_pos c]
    rw [decide_eq_true c] at ni
    unfold slW wi
    generalize pG b G = t at *
    generalize mP F = m at *
    simp [eVar_run, v, nr, ni]
  · rw [if_neg c]
    rw [decide_eq_false c] at ni
    have ix : gIxD (.loc 0) (.int u) (mP F) = some (oT p) := ixD_run (e := oT) (G := F) (dctOf_loc rfl) hu
    have st : gSetD (.loc 0) (.int y) (oT (p ++ [y])) (mP F) = some [.dct (dE oT (F ++ [(y, p ++ [y])])), .lst ((keysP F).map D.int)] := setD_new (e := oT) (G := F) (k := y) (v := p ++ [y]) (μ := mP F) (l := 0) rfl (lookup_none.mpr c) (by omega)
    have ap : gAppend (.loc 1) [.int y] [.dct (dE oT (F ++ [(y, p ++ [y])])), .lst ((keysP F).map D.int)] = some (.non, mP (F ++ [(y, p ++ [y])])) := by
      have := append_at (μ := [.dct (dE oT (F ++ [(y, p ++ [y])])), .lst ((keysP F).map D.int)]) (l := 1) (xs := (keysP F).map D.int) (y := .int y) rfl (by rw [List.length_map]; omega)
      rw [this]
      show some (D.non, [Ob.dct _, Ob.lst ((keysP F).map D.int ++ [.int y])]) = some (D.non, [_, Ob.lst ((keysP (F ++ [(y, p ++ [y])])).map D.int)])
      unfold keysP
      rw [List.map_append, List.map_append]; rfl
    have lx : (lstX [.dct (dE oT (F ++ [(y, p ++ [y])])), .lst ((keysP F).map D.int)] (.loc 1)).isSome = true := rfl
    have tp : ∀ μ, gTupD [.int y] μ = some (.tup [.int y]) := fun _ => rfl
    have a1 := ad1 (y := y) hp
    unfold slW wi
    generalize pG b G = t at *
    generalize oT (p ++ [y]) = q2 at *
    generalize oT p = q1 at *
    generalize mP (F ++ [(y, p ++ [y])]) = m3 at *
    generalize ([.dct (dE oT (F ++ [(y, p ++ [y])])), .lst ((keysP F).map D.int)] : Mem) = m2 at *
    generalize mP F = m at *
    simp [eVar_run, v, nr, ni, ix, a1, tp, st, lx, ap]
theorem wi_loop {u : Int} {p : List Int} (hp : p.length ≤ 1000) {a : Nat} : ∀ (ys : List Int) (F : Pa) (o : Option D), (∀ y ∈ ys, y ∈ keysG G) → F.lookup u = some p → F.length + ys.length ≤ 1000 →
    ∃ o', loopS (gNm 7) wi (ys.map D.int) (slW b G x e a (some (.int u)) o) (mP F) = .nx (slW b G x e a (some (.int u)) o') (mP (adP F p ys))
  | [], F, o, _, _, _ => ⟨o, by rw [show adP F p [] = F from List.append_nil F]; rfl⟩
  | y :: ys, F, o, hk, hu, hl => by
    rw [List.length_cons] at hl
    have t := wi_run (b := b) (x := x) (e := e) (a := a) (hk y (.head _)) hu hp (by omega)
    by_cases c : y ∈ keysP F
    · rw [if_pos c] at t
      obtain ⟨o', h⟩ := wi_loop hp ys F (some (.int y)) (fun z hz => hk z (.tail _ hz)) hu (by omega)
      refine ⟨o', ?_⟩
      rw [List.map_cons, loopS_nx (show gNm 7 (.int y) (slW b G x e a (some (.int u)) o) (mP F) = .nx (slW b G x e a (some (.int u)) (some (.int y))) (mP F) from rfl) t, h]
      unfold adP
      rw [show fr (keysP F) (y :: ys) = fr (keysP F) ys from by rw [fr, if_pos c]]
    · rw [if_neg c] at t
      have hu' : (F ++ [(y, p ++ [y])]).lookup u = some p := by rw [lookup_app, hu]; rfl
      obtain ⟨o', h⟩ := wi_loop hp ys (F ++ [(y, p ++ [y])]) (some (.int y)) (fun z hz => hk z (.tail _ hz)) hu' (by rw [List.length_append, List.length_singleton]; omega)
      refine ⟨o', ?_⟩
      rw [List.map_cons, loopS_nx (show gNm 7 (.int y) (slW b G x e a (some (.int u)) o) (mP F) = .nx (slW b G x e a (some (.int u)) (some (.int y))) (mP F) from rfl) t, h]
      unfold adP
      rw [show fr (keysP F) (y :: ys) = y :: fr (keysP F ++ [y]) ys from by rw [fr, if_neg c]]
      rw [show keysP (F ++ [(y, p ++ [y])]) = keysP F ++ [y] from by unfold keysP; rw [List.map_append]; rfl, List.append_assoc]
      rfl
theorem bi_keys (W : Web G) (hx : x ∈ keysG G) {F : Pa} {a : Nat} (h : BI G x F a) : ∀ z ∈ keysP F, z ∈ keysG G := fun z hz => by
  obtain ⟨c, hc, rfl⟩ := List.mem_map.mp hz
  obtain ⟨r, _, w⟩ := h.way c hc
  exact (w.rank W hx).2
theorem bi_len (W : Web G) (hx : x ∈ keysG G) {F : Pa} {a : Nat} (h : BI G x F a) : F.length ≤ G.length := by
  have := sub_len h.nd (bi_keys W hx h)
  rw [keysP_len] at this
  unfold keysG at this
  rwa [List.length_map] at this
theorem wu_loop (W : Web G) (hx : x ∈ keysG G) : ∀ (k : Nat) (F : Pa) (a : Nat) (o6 o7 : Option D), BI G x F a → a ≤ F.length → G.length - a < k → k ≤ 1000 →
    ∃ F' a' p6 p7, whileS wc wb k (slW b G x e a o6 o7) (mP F) = .nx (slW b G x e a' p6 p7) (mP F') ∧ BI G x F' a' ∧ (e ∈ keysP F' ∨ a' = F'.length)
  | 0, F, a, o6, o7, _, _, h, _ => absurd h (by omega)
  | k + 1, F, a, o6, o7, h, ha, hk, h1 => by
    unfold whileS
    have v : ∀ μ, vOf (some (some (pG b G))) μ = .ok (pG b G) μ := fun _ => rfl
    have few := W.few
    have fl := bi_len W hx h
    have ln : gLen [.loc 1] (mP F) = some (.int (F.length : Int)) := by
      show some (D.int (((keysP F).map D.int).length : Int)) = _
      rw [List.length_map, keysP_len]
    have ni : gNinD (.int e) (.loc 0) (mP F) = some (.bl !(decide (e ∈ keysP F))) := ninD_run (e := oT) (G := F) (dctOf_loc rfl)
    have hc : wc (slW b G x e a o6 o7) (mP F) = .ok (decide (a < F.length) && !decide (e ∈ keysP F)) (mP F) := by
      have lt : decide ((a : Int) < (F.length : Int)) = decide (a < F.length) := decide_eq_decide.mpr (by omega)
      unfold slW wc
      generalize pG b G = t at *
      generalize mP F = m at *
      rw [← lt]
      by_cases c : (a : Int) < (F.length : Int)
      · simp [eVar_run, ln, ni, c]
      · simp [eVar_run, ln, ni, c]
    rw [hc]
    by_cases c : a < F.length ∧ e ∉ keysP F
    · rw [decide_eq_true c.1, decide_eq_false c.2]
      obtain ⟨⟨u, p⟩, hu⟩ : ∃ c, F[a]? = some c := ⟨_, List.getElem?_eq_getElem c.1⟩
      have hup : (u, p) ∈ F := List.mem_of_getElem? hu
      have lu : F.lookup u = some p := lookup_mem hup h.nd
      have uk : u ∈ keysG G := bi_keys W hx h u (List.mem_map.mpr ⟨_, hup, rfl⟩)
      obtain ⟨ru, er, wr⟩ := h.way _ hup
      have rk := (wr.rank W hx).1
      have rkx : El.rk G x < (keysG G).length := List.idxOf_lt_length_iff.mpr hx
      have kl : (keysG G).length = G.length := List.length_map _
      have pl : p.length ≤ 1000 := by
        have er : p = x :: ru := er
        rw [er, List.length_cons]
        omega
      have hl : ∀ y ∈ lnk G u, y ∈ keysG G := fun y hy => (W.link uk hy).1
      have f2 := W.ln _ (lnk_in uk)
      have f2 : (lnk G u).length ≤ 12 ∧ (lnk G u).Nodup := f2
      have mI : ∀ y, y ∈ srtI (lnk G u) ↔ y ∈ lnk G u := fun y => mem_srtI
      have pw : (srtI (lnk G u)).Pairwise (· < ·) := by rw [srtI_nodup f2.2]; exact srtU_lt _
      have ls : (srtI (lnk G u)).length ≤ 12 := by rw [len_srtI]; exact f2.1
      have ix1 : gIx (.loc 1) (.int (a : Int)) (mP F) = some (.int u) := by
        have : seqOf (mP F) (.loc 1) = some ((keysP F).map D.int) := rfl
        rw [ix_nat this, List.getElem?_map]
        unfold keysP
        rw [List.getElem?_map, hu]; rfl
      have ix2 := pG_ix (b := b) (μ := mP F) uk
      have li : ∀ μ, gList [sqI b (lnk G u)] μ = some (oL (lnk G u)) := fun _ => sqI_list
      have so : ∀ μ, gSrt [oL (lnk G u)] μ = some (oL (srtI (lnk G u))) := fun μ => srt_lst
      have s1 : wb1 (slW b G x e a o6 o7) (mP F) = .nx (slW b G x e a (some (.int u)) o7) (mP F) := by
        unfold slW wb1
        generalize pG b G = t at *
        generalize mP F = m at *
        simp [eVar_run, ix1]
      have s2 : wb2 (slW b G x e a (some (.int u)) o7) (mP F) = .nx (slW b G x e (a + 1) (some (.int u)) o7) (mP F) := by
        unfold wb2 slW
        generalize pG b G = t at *
        generalize mP F = m at *
        simp [sAug]
      have it : wb3 (slW b G x e (a + 1) (some (.int u)) o7) (mP F) = .ok ((srtI (lnk G u)).map D.int) (mP F) := by
        have sq : seqV (oL (srtI (lnk G u))) = some ((srtI (lnk G u)).map D.int) := rfl
        unfold wb3 slW
        generalize pG b G = t at *
        generalize sqI b (lnk G u) = q at *
        generalize oL (srtI (lnk G u)) = q3 at *
        generalize oL (lnk G u) = q2 at *
        generalize mP F = m at *
        simp [eVar_run, v, ix2, li, so, sq]
      obtain ⟨o', e3⟩ := wi_loop (b := b) (x := x) (e := e) (a := a + 1) pl (srtI (lnk G u)) F o7 (fun y hy => hl y ((mI y).mp hy)) lu (by omega)
      have bd : wb (slW b G x e a o6 o7) (mP F) = .nx (slW b G x e (a + 1) (some (.int u)) o') (mP (adP F p (srtI (lnk G u)))) := by
        unfold wb
        refine (seq_nx s1).trans <| (seq_nx s2).trans ?_
        rw [sFor_run, it, bindS_ok]; exact e3
      have hn := h.step hu pw mI
      obtain ⟨F', a', p6, p7, e2, h2⟩ := wu_loop W hx k _ (a + 1) (some (.int u)) o' hn (by unfold adP; rw [List.length_append]; omega) (by omega) (by omega)
      refine ⟨F', a', p6, p7, ?_, h2⟩
      show (match wb (slW b G x e a o6 o7) (mP F) with | .nx δ2 μ2 => whileS wc wb k δ2 μ2 | .ct δ2 μ2 => whileS wc wb k δ2 μ2 | .bk δ2 μ2 => .nx δ2 μ2 | .ret v μ2 => .ret v μ2 | .exc x δ2 μ2 => .exc x δ2 μ2 | .stuck => .stuck) = _
      rw [bd]
      exact e2
    · have z : (decide (a < F.length) && !decide (e ∈ keysP F)) = false := by
        by_cases c1 : a < F.length
        · by_cases c2 : e ∈ keysP F
          · simp [c2]
          · exact absurd ⟨c1, c2⟩ c
        · simp [c1]
      rw [z]
      refine ⟨F, a, o6, o7, rfl, h, ?_⟩
      by_cases c2 : e ∈ keysP F
      · exact .inl c2
      · exact .inr (by
          by_cases c1 : a < F.length
          · exact absurd ⟨c1, c2⟩ c
          · omega)
def oW : Option (List Int) → D
  | none => .non
  | some w => oT w
theorem oW_v (o : Option (List Int)) (μ : Mem) : vOf (some (some (oW o))) μ = .ok (oW o) μ := by cases o <;> rfl
theorem way_run (W : Web G) (hx : x ∈ keysG G) (he : e ∈ keysG G) : ∃ o, Best G x e o ∧ ∀ μ, callP f_way_up [pG b G, .int x, .int e] μ = .ok (oW o) μ := by
  have v : ∀ μ, vOf (some (some (pG b G))) μ = .ok (pG b G) μ := fun _ => rfl
  have few := W.few
  obtain ⟨F, a, p6, p7, e5, h5, h6⟩ := wu_loop (b := b) (e := e) W hx 1000 [(x, [x])] 0 none none (BI.start G x) (by simp) (by omega) (by omega)
  refine ⟨F.lookup e, h5.best h6, fun μ => ?_⟩
  have n1 := need_run (b := b) hx
  have n2 := need_run (b := b) he
  have tp : ∀ μ, gTupD [.int x] μ = some (oT [x]) := fun _ => rfl
  have t1 : w1 [some (pG b G), some (.int x), some (.int e), none, none, none, none, none] [] = .nx [some (pG b G), some (.int x), some (.int e), some (.loc 0), none, none, none, none] [.dct (dE oT [(x, [x])])] := by
    have ed : dE oT [(x, [x])] = [(.int x, oT [x])] := rfl
    rw [ed]
    unfold w1
    generalize pG b G = t at *
    generalize oT [x] = q at *
    simp [eVar_run, v, n1, keyK_i, tp]
  have t2 : ∀ μ, w2 [some (pG b G), some (.int x), some (.int e), some (.loc 0), none, none, none, none] μ = .nx [some (pG b G), some (.int x), some (.int e), some (.loc 0), none, none, none, none] μ := fun μ => by
    unfold w2
    generalize pG b G = t at *
    simp [eVar_run, v, n2]
  have t3 : w3 [some (pG b G), some (.int x), some (.int e), some (.loc 0), none, none, none, none] [.dct (dE oT [(x, [x])])] = .nx [some (pG b G), some (.int x), some (.int e), some (.loc 0), some (.loc 1), none, none, none] (mP [(x, [x])]) := rfl
  have t4 : w4 [some (pG b G), some (.int x), some (.int e), some (.loc 0), some (.loc 1), none, none, none] (mP [(x, [x])]) = .nx (slW b G x e 0 none none) (mP [(x, [x])]) := rfl
  have t6 : w6 (slW b G x e a p6 p7) (mP F) = .ret (oW (F.lookup e)) (mP F) := by
    have dd : dctOf (mP F) (.loc 0) = some (dE oT F) := dctOf_loc rfl
    have vd := valD_dE (e := oT) (k := e) F
    unfold w6
    cases hl : F.lookup e with
    | none =>
      rw [hl] at vd
      unfold slW
      generalize pG b G = t at *
      generalize mP F = m at *
      simp [eVar_run, dd, keyK_i, vd, oW]
    | some w =>
      rw [hl] at vd
      have vd : valD (dE oT F) (.inl e) = some (oT w) := vd
      show _ = SOut.ret (oT w) _
      unfold slW
      generalize pG b G = t at *
      generalize mP F = m at *
      generalize oT w = q at *
      simp [eVar_run, dd, keyK_i, vd]
  exact callP_ok (μ' := mP F) (body_ret (δ := [some (pG b G), some (.int x), some (.int e), none, none, none, none, none]) rfl ((congrFun (congrFun wu_f _) _).trans <| (seq_nx t1).trans <| (seq_nx (t2 _)).trans <| (seq_nx t3).trans <| (seq_nx t4).trans <| (seq_nx (show sWhile (fun _ _ => 1000) wc wb (slW b G x e 0 none none) (mP [(x, [x])]) = _ from e5)).trans t6)) (pG_ls rfl) (by
    cases F.lookup e with
    | none => rfl
    | some w => show locBs false 0 _ = true; exact loc_ints _ _ _)
theorem way_exc {d d2 : D} {f : Xn} (v1 : ∀ μ, vOf (some (some d)) μ = .ok d μ) (hd : locBs false 0 [pG b G, d, d2] = true) (hf : locBs false 0 (f.fs.map (·.2)) = true) (er : ∀ μ, callP f_need_there [pG b G, d] μ = .exc f μ) (μ : Mem) : callP f_way_up [pG b G, d, d2] μ = .exc f μ := by
  have v : ∀ μ, vOf (some (some (pG b G))) μ = .ok (pG b G) μ := fun _ => rfl
  have s1 : w1 [some (pG b G), some d, some d2, none, none, none, none, none] [] = .exc f [some (pG b G), some d, some d2, none, none, none, none, none] [] := by
    unfold w1
    generalize pG b G = t at *
    simp [eVar_run, v, v1, er]
  refine callP_exc (μ' := []) (body_exc (δ := [some (pG b G), some d, some d2, none, none, none, none, none]) (δ' := [some (pG b G), some d, some d2, none, none, none, none, none]) rfl ((congrFun (congrFun wu_f _) _).trans ?_)) hd hf
  unfold sSeq
  rw [s1]; rfl
end
end K61
set_option Elab.async false
set_option linter.all false
set_option maxRecDepth 100000
namespace El
open Kw (lstLt lowT lt_mem_eq srtU srtU_lt mem_srtU)
def je (G : Lk) (F : List Int) (one : Int) : List Int := F ++ (lnk G one).filter fun y => !F.contains y
def jr (G : Lk) (F : List Int) : List Int := F.foldl (je G) F
def jn (G : Lk) : Nat → List Int → List Int
  | 0, F => F
  | n + 1, F => jn G n (jr G F)
section
variable {G : Lk}
theorem mem_je {F : List Int} {one z : Int} : z ∈ je G F one ↔ z ∈ F ∨ z ∈ lnk G one := by
  unfold je
  rw [List.mem_append, List.mem_filter, Bool.not_eq_true', ← Bool.not_eq_true, List.contains_iff_mem]
  by_cases h : z ∈ F
  · simp [h]
  · simp [h]
theorem mem_jf : ∀ (items F : List Int) (z : Int), z ∈ items.foldl (je G) F ↔ z ∈ F ∨ ∃ one ∈ items, z ∈ lnk G one
  | [], F, z => by simp
  | a :: items, F, z => by
    rw [List.foldl_cons, mem_jf items, mem_je, or_assoc]
    simp
theorem nodup_je (W : Web G) {F : List Int} {one : Int} (h : F.Nodup) : (je G F one).Nodup := by
  unfold je
  rw [List.nodup_append]
  refine ⟨h, List.Nodup.sublist List.filter_sublist ?_, fun a ha b hb e => ?_⟩
  · by_cases k : one ∈ keysG G
    · exact (W.ln _ (lnk_in k)).2
    · rw [lnk_none k]; exact .nil
  · rw [List.mem_filter, Bool.not_eq_true', ← Bool.not_eq_true, List.contains_iff_mem] at hb
    exact hb.2 (e ▸ ha)
theorem nodup_jf (W : Web G) : ∀ (items F : List Int), F.Nodup → (items.foldl (je G) F).Nodup
  | [], _, h => h
  | a :: items, F, h => nodup_jf W items _ (nodup_je W h)
theorem mem_jn : ∀ (k : Nat) (F : List Int) (z : Int), z ∈ jn G k F ↔ ∃ u ∈ F, ∃ r, r.length ≤ k ∧ WayR G u r z
  | 0, F, z => by
    constructor
    · exact fun h => ⟨z, h, [], Nat.le_refl _, rfl⟩
    · rintro ⟨u, hu, r, hr, w⟩
      have : r = [] := List.length_eq_zero_iff.mp (by omega)
      subst this
      have w : u = z := w
      exact w ▸ hu
  | k + 1, F, z => by
    unfold jn
    rw [mem_jn k]
    constructor
    · rintro ⟨u, hu, r, hr, w⟩
      rcases (mem_jf _ _ _).mp hu with h | ⟨o, ho, h⟩
      · exact ⟨u, h, r, by omega, w⟩
      · exact ⟨o, ho, u :: r, by rw [List.length_cons]; omega, h, w⟩
    · rintro ⟨u, hu, r, hr, w⟩
      cases r with
      | nil => exact ⟨u, (mem_jf _ _ _).mpr (.inl hu), [], by simp, w⟩
      | cons y r => exact ⟨y, (mem_jf _ _ _).mpr (.inr ⟨u, hu, w.1⟩), r, by rw [List.length_cons] at hr; omega, w.2⟩
theorem nodup_jn (W : Web G) : ∀ (k : Nat) (F : List Int), F.Nodup → (jn G k F).Nodup
  | 0, _, h => h
  | k + 1, F, h => nodup_jn W k _ (nodup_jf W F F h)
theorem rk_lt {x : Int} (hx : x ∈ keysG G) : rk G x < G.length := by
  have : rk G x < (keysG G).length := List.idxOf_lt_length_iff.mpr hx
  unfold keysG at this
  rwa [List.length_map] at this
theorem jn_isE (W : Web G) {x : Int} (hx : x ∈ keysG G) : IsE G x (srtU (jn G G.length [x])) := ⟨srtU_lt _, fun z => by
  rw [mem_srtU, mem_jn]
  constructor
  · rintro ⟨u, hu, r, _, w⟩
    rw [List.mem_singleton.mp hu] at w
    exact w.up
  · intro h
    obtain ⟨r, w⟩ := h.way
    have := (w.rank W hx).1
    have := rk_lt hx
    exact ⟨x, by simp, r, by omega, w⟩⟩
theorem jf_key (W : Web G) (items F : List Int) (h : ∀ z ∈ F, z ∈ keysG G) (h2 : ∀ z ∈ items, z ∈ keysG G) : ∀ z ∈ items.foldl (je G) F, z ∈ keysG G := fun z hz => by
  rcases (mem_jf _ _ _).mp hz with q | ⟨o, ho, q⟩
  · exact h z q
  · exact (W.link (h2 o ho) q).1
end
def lastI (w : List Int) : Int := w.getLastD 0
def lay (G : Lk) (x : Int) : Nat → List (List Int)
  | 0 => [[x]]
  | n + 1 => (lay G x n).flatMap fun w => (lnk G (lastI w)).map fun y => w ++ [y]
def wys (G : Lk) (x e : Int) : Nat → List (List Int)
  | 0 => []
  | n + 1 => wys G x e n ++ (lay G x n).filter fun w => lastI w == e
section
variable {G : Lk}
theorem WayR.last : ∀ {r : List Int} {x e : Int}, WayR G x r e → lastI (x :: r) = e
  | [], _, _, h => h
  | y :: r, x, e, h => by
    have := WayR.last h.2
    unfold lastI at this ⊢
    rw [List.getLastD_cons]
    rw [List.getLastD_cons] at this ⊢
    exact this
theorem mem_lay {x : Int} : ∀ (n : Nat) (w : List Int), w ∈ lay G x n ↔ ∃ r e, w = x :: r ∧ r.length = n ∧ WayR G x r e
  | 0, w => by
    unfold lay
    rw [List.mem_singleton]
    constructor
    · rintro rfl
      exact ⟨[], x, rfl, rfl, rfl⟩
    · rintro ⟨r, e, rfl, h, _⟩
      rw [List.length_eq_zero_iff.mp h]
  | n + 1, w => by
    unfold lay
    rw [List.mem_flatMap]
    constructor
    · rintro ⟨w', h1, h2⟩
      obtain ⟨r, e, rfl, hl, hw⟩ := (mem_lay n w').mp h1
      obtain ⟨y, hy, rfl⟩ := List.mem_map.mp h2
      rw [hw.last] at hy
      exact ⟨r ++ [y], y, rfl, by simp [hl], hw.app hy⟩
    · rintro ⟨r, e, rfl, hl, hw⟩
      rcases List.eq_nil_or_concat r with rfl | ⟨r', y, rfl⟩
      · cases hl
      · rw [List.concat_eq_append] at hw hl ⊢
        obtain ⟨rfl, z, h1, h2⟩ := hw.unapp
        refine ⟨x :: r', (mem_lay n _).mpr ⟨r', z, rfl, by simpa using hl, h1⟩, List.mem_map.mpr ⟨e, ?_, rfl⟩⟩
        rw [h1.last]; exact h2
theorem mem_wys {x e : Int} : ∀ (n : Nat) (w : List Int), w ∈ wys G x e n ↔ ∃ r, w = x :: r ∧ r.length < n ∧ WayR G x r e
  | 0, w => by
    unfold wys
    constructor
    · intro h; cases h
    · rintro ⟨r, _, h, _⟩; omega
  | n + 1, w => by
    unfold wys
    rw [List.mem_append, mem_wys n, List.mem_filter, mem_lay]
    constructor
    · rintro (⟨r, h1, h2, h3⟩ | ⟨⟨r, e', h1, h2, h3⟩, h4⟩)
      · exact ⟨r, h1, by omega, h3⟩
      · rw [h1, h3.last] at h4
        rw [eq_of_beq h4] at h3
        exact ⟨r, h1, by omega, h3⟩
    · rintro ⟨r, h1, h2, h3⟩
      by_cases c : r.length < n
      · exact .inl ⟨r, h1, c, h3⟩
      · exact .inr ⟨⟨r, e, h1, by omega, h3⟩, by rw [h1, h3.last]; exact beq_self_eq_true e⟩
theorem wys_all (W : Web G) {x e : Int} (hx : x ∈ keysG G) (w : List Int) : w ∈ wys G x e (G.length + 1) ↔ ∃ r, w = x :: r ∧ WayR G x r e := by
  rw [mem_wys]
  constructor
  · rintro ⟨r, h1, _, h3⟩; exact ⟨r, h1, h3⟩
  · rintro ⟨r, h1, h3⟩
    have := (h3.rank W hx).1
    have := rk_lt hx
    exact ⟨r, h1, by omega, h3⟩
def cnt (G : Lk) : Nat → Int → Nat
  | 0, _ => 1
  | n + 1, x => ((lnk G x).map (cnt G n)).sum
theorem sum_flat {α β : Type} (f : α → List β) (g : β → Nat) : ∀ l : List α, ((l.flatMap f).map g).sum = (l.map fun a => ((f a).map g).sum).sum
  | [] => rfl
  | a :: l => by
    rw [List.flatMap_cons, List.map_append, List.sum_append, sum_flat f g l, List.map_cons, List.sum_cons]
theorem lay_cnt {x : Int} : ∀ (s t : Nat), ((lay G x s).map fun w => cnt G t (lastI w)).sum = cnt G (s + t) x
  | 0, t => by
    unfold lay
    rw [Nat.zero_add]
    show cnt G t x + 0 = _
    omega
  | s + 1, t => by
    unfold lay
    rw [sum_flat, show s + 1 + t = s + (t + 1) by omega, ← lay_cnt s (t + 1)]
    congr 1
    refine List.map_congr_left fun w _ => ?_
    rw [List.map_map]
    show _ = ((lnk G (lastI w)).map (cnt G t)).sum
    congr 1
    refine List.map_congr_left fun y _ => ?_
    show cnt G t (lastI (w ++ [y])) = _
    unfold lastI
    rw [List.getLastD_concat]
theorem lay_len {x : Int} (s : Nat) : (lay G x s).length = cnt G s x := by
  have := lay_cnt (G := G) (x := x) s 0
  rw [Nat.add_zero] at this
  rw [← this]
  show _ = ((lay G x s).map fun _ => 1).sum
  induction lay G x s with
  | nil => rfl
  | cons a l ih => rw [List.length_cons, List.map_cons, List.sum_cons, ih]; omega
def bin : Nat → Nat → Nat
  | 0, _ => 1
  | t + 1, i => ((List.range i).map (bin t)).sum
theorem sum_sub (g : Nat → Nat) : ∀ (ns ms : List Nat), ns.Nodup → (∀ n ∈ ns, n ∈ ms) → (ns.map g).sum ≤ (ms.map g).sum
  | [], ms, _, _ => Nat.zero_le _
  | n :: ns, ms, nd, h => by
    rw [List.nodup_cons] at nd
    have p := List.perm_cons_erase (h n (.head _))
    have e : (ms.map g).sum = g n + ((ms.erase n).map g).sum := by
      rw [(p.map g).sum_nat, List.map_cons, List.sum_cons]
    rw [e, List.map_cons, List.sum_cons]
    have := sum_sub g ns (ms.erase n) nd.2 fun m hm => (List.mem_erase_of_ne (show m ≠ n from fun q => nd.1 (by rw [← q]; exact hm))).mpr (h m (.tail _ hm))
    omega
theorem sum_le_map {f g : Int → Nat} : ∀ (l : List Int), (∀ y ∈ l, f y ≤ g y) → (l.map f).sum ≤ (l.map g).sum
  | [], _ => Nat.le_refl _
  | y :: l, h => by
    rw [List.map_cons, List.map_cons, List.sum_cons, List.sum_cons]
    have := h y (.head _)
    have := sum_le_map l fun z hz => h z (.tail _ hz)
    omega
theorem rk_inj {x y : Int} (hx : x ∈ keysG G) (hy : y ∈ keysG G) (h : rk G x = rk G y) : x = y := by
  have a : (keysG G)[rk G x]? = some x := by
    have := List.idxOf_lt_length_iff.mpr hx
    rw [List.getElem?_eq_some_iff]
    exact ⟨this, List.getElem_idxOf this⟩
  have b : (keysG G)[rk G y]? = some y := by
    have := List.idxOf_lt_length_iff.mpr hy
    rw [List.getElem?_eq_some_iff]
    exact ⟨this, List.getElem_idxOf this⟩
  rw [h, b] at a
  exact (Option.some.inj a).symm
theorem cnt_le (W : Web G) : ∀ (t : Nat) (x : Int), x ∈ keysG G → cnt G t x ≤ bin t (rk G x)
  | 0, _, _ => Nat.le_refl _
  | t + 1, x, hx => by
    unfold cnt bin
    have hl : ∀ y ∈ lnk G x, y ∈ keysG G ∧ rk G y < rk G x := fun y hy => W.link hx hy
    have nd : (lnk G x).Nodup := (W.ln _ (lnk_in hx)).2
    refine Nat.le_trans (sum_le_map (g := fun y => bin t (rk G y)) _ fun y hy => cnt_le W t y (hl y hy).1) ?_
    have := sum_sub (bin t) ((lnk G x).map (rk G)) (List.range (rk G x)) (by
      rw [List.nodup_iff_pairwise_ne, List.pairwise_map]
      refine List.Pairwise.imp_of_mem ?_ (List.nodup_iff_pairwise_ne.mp nd)
      intro a b ha hb hab e
      exact hab (rk_inj (hl a ha).1 (hl b hb).1 e)) fun n hn => by
      obtain ⟨y, hy, rfl⟩ := List.mem_map.mp hn
      exact List.mem_range.mpr (hl y hy).2
    rwa [List.map_map] at this
theorem bin_few : ∀ t < 14, ∀ i < 12, bin t i ≤ 600 := by decide +kernel
theorem lay_few (W : Web G) {x : Int} (hx : x ∈ keysG G) {t : Nat} (ht : t < 14) : (lay G x t).length ≤ 600 := by
  rw [lay_len]
  have := rk_lt hx
  have := W.few
  exact Nat.le_trans (cnt_le W t x hx) (bin_few t ht _ (by omega))
end
theorem lowT_spec {k : Nat} : ∀ (nss : List (List Int)) (n : List Int), (∀ m ∈ n :: nss, m.length = k) → lowT n nss ∈ n :: nss ∧ ∀ m ∈ n :: nss, LL (lowT n nss) m
  | [], n, _ => ⟨.head _, fun m hm => by rw [List.mem_singleton.mp hm]; exact .inl rfl⟩
  | y :: nss, n, h => by
    have hn := h n (.head _)
    have hy := h y (.tail _ (.head _))
    have e : lowT n (y :: nss) = lowT (if lstLt (fun i j : Int => decide (i < j)) y n = true then y else n) nss := rfl
    rw [e]
    by_cases c : lstLt (fun i j : Int => decide (i < j)) y n = true
    · rw [if_pos c]
      obtain ⟨h1, h2⟩ := lowT_spec nss y fun m hm => h m (.tail _ hm)
      refine ⟨.tail _ h1, fun m hm => ?_⟩
      rcases List.mem_cons.mp hm with rfl | hm
      · exact (h2 y (.head _)).trans (.inr (.inr ⟨by rw [hn, hy], c⟩))
      · exact h2 m hm
    · rw [if_neg c]
      obtain ⟨h1, h2⟩ := lowT_spec nss n fun m hm => by
        rcases List.mem_cons.mp hm with rfl | hm
        · exact hn
        · exact h m (.tail _ (.tail _ hm))
      refine ⟨?_, fun m hm => ?_⟩
      · rcases List.mem_cons.mp h1 with q | q
        · rw [q]; exact .head _
        · exact .tail _ (.tail _ q)
      · rcases List.mem_cons.mp hm with rfl | hm
        · exact h2 m (.head _)
        · rcases List.mem_cons.mp hm with rfl | hm
          · refine (h2 n (.head _)).trans ?_
            rcases llt_tri (show n.length = m.length by rw [hn, hy]) with q | q | q
            · exact .inr (.inr ⟨by rw [hn, hy], q⟩)
            · exact .inl q
            · exact absurd q c
          · exact h2 m (.tail _ hm)
theorem least_best {G : Lk} (W : Web G) {x e : Int} (hx : x ∈ keysG G) {k : Nat} {n : List Int} {nss : List (List Int)} (hk : ∀ w ∈ wys G x e (G.length + 1), k ≤ w.length) (hf : (wys G x e (G.length + 1)).filter (fun w => decide (w.length = k)) = n :: nss) : Best G x e (some (lowT n nss)) := by
  have hm : ∀ w, w ∈ n :: nss ↔ w ∈ wys G x e (G.length + 1) ∧ w.length = k := fun w => by rw [← hf, List.mem_filter, decide_eq_true_eq]
  obtain ⟨h1, h2⟩ := lowT_spec (k := k) nss n fun m h => ((hm m).mp h).2
  obtain ⟨h3, h4⟩ := (hm _).mp h1
  refine ⟨(wys_all W hx _).mp h3, fun r w => ?_⟩
  have hw := (wys_all W hx (x :: r)).mpr ⟨r, rfl, w⟩
  have := hk _ hw
  by_cases c : (x :: r).length = k
  · exact h2 _ ((hm _).mpr ⟨hw, c⟩)
  · exact .inr (.inl (by omega))
theorem none_best {G : Lk} (W : Web G) {x e : Int} (hx : x ∈ keysG G) (h : wys G x e (G.length + 1) = []) : Best G x e none := fun r w => by
  have := (wys_all W hx (x :: r)).mpr ⟨r, rfl, w⟩
  rw [h] at this
  cases this
end El
set_option Elab.async false
set_option linter.all false
set_option maxRecDepth 100000
namespace K61
open PySem PySem.Spec PyProof.Rows L2 Kw El
section
variable {b : Bool} {G : Lk} {x e : Int}
theorem lnI (μ : Mem) : gLenB [pG b G] μ = some (.int (G.length : Int)) := by
  have := gLenB_dct (μ := μ) (show dctOf μ (pG b G) = some (dE (sqI b) G) from rfl)
  rwa [dE_len] at this
theorem adL {a c : List D} (h : a.length + c.length ≤ 1000000) (μ : Mem) : gAdd (.lst a) (.lst c) μ = some (.lst (a ++ c)) := by
  show (if a.length + c.length ≤ sizeLine then _ else _) = _
  rw [if_pos (szN h)]
def lbE : EM := (eLc (iSeq (e2 gIxD (eVar 0) (eVar 4))) (gNm 5) (tBl (e2 gNin (eVar 5) (eVar 2))) (eVar 5) [5])
def lb : SM := (sAsg (e2 gAdd (eVar 2) lbE) (gNm 2))
def lr : SM := (sFor (iSeq (eAs gList (aCons (eVar 2) aNil))) (gNm 4) lb)
theorem le_f : m__law_elders = sSeq (sAsg (eAs gLstD (aCons (eVar 1) aNil)) (gNm 2)) (sSeq (sFor (iRange1 (aCons (eAs gLenB (aCons (eVar 0) aNil)) aNil)) (gNm 3) lr) (sRet (eAs gSrtSet (aCons (eVar 2) aNil)))) := rfl
abbrev slL (b : Bool) (G : Lk) (x : Int) (F : List Int) (o3 o4 : Option D) : Sv := [some (pG b G), some (.int x), some (oL F), o3, o4, none]
theorem lb_run (W : Web G) {F : List Int} {o : Int} (ho : o ∈ keysG G) (hF : F.length ≤ 1000) (o3 : Option D) (μ : Mem) : lb (slL b G x F o3 (some (.int o))) μ = .nx (slL b G x (je G F o) o3 (some (.int o))) μ := by
  have v : ∀ μ, vOf (some (some (pG b G))) μ = .ok (pG b G) μ := fun _ => rfl
  have ix := pG_ix (b := b) (μ := μ) ho
  have sq := sqI_seq (b := b) (xs := lnk G o)
  have f2 : (lnk G o).length ≤ 12 := (W.ln _ (lnk_in ho)).1
  obtain ⟨N, eN⟩ : ∃ N, N = (lnk G o).filter fun y => !F.contains y := ⟨_, rfl⟩
  have nl : N.length ≤ 12 := by rw [eN]; exact Nat.le_trans (List.length_filter_le _ _) f2
  have lc : lcL (gNm 5) (tBl (e2 gNin (eVar 5) (eVar 2))) (eVar 5) (slL b G x F o3 (some (.int o))) ((lnk G o).map D.int) μ = .ok (N.map D.int) μ := by
    rw [eN]
    refine lcL_filt (e := D.int) (t := fun y => !F.contains y) (f := D.int) (lnk G o) ?_
    intro a _
    refine ⟨?_, fun _ => rfl⟩
    have := nin_ints a F μ
    show tBl (e2 gNin (eVar 5) (eVar 2)) [some (pG b G), some (.int x), some (oL F), o3, some (.int o), some (.int a)] μ = .ok (!F.contains a) μ
    have this : gNin (.int a) (oL F) μ = some (.bl !F.contains a) := this
    generalize (!F.contains a) = c at *
    generalize pG b G = t at *
    have vf : ∀ μ, vOf (some (some (oL F))) μ = .ok (oL F) μ := fun _ => rfl
    generalize oL F = q at *
    simp [eVar_run, vf, this]
  have el : lbE (slL b G x F o3 (some (.int o))) μ = .ok (oL N) μ := by
    have it : iSeq (e2 gIxD (eVar 0) (eVar 4)) (slL b G x F o3 (some (.int o))) μ = .ok ((lnk G o).map D.int) μ := by
      unfold slL
      generalize pG b G = t at *
      generalize sqI b (lnk G o) = u at *
      generalize oL F = q at *
      simp [eVar_run, v, ix, sq]
    unfold lbE
    rw [eLc_run, it, bind_ok, show wipeD (slL b G x F o3 (some (.int o))) [5] = slL b G x F o3 (some (.int o)) from rfl, lc]
    have : (N.map D.int).length ≤ sizeLine := by rw [List.length_map]; show _ ≤ 2 ^ 24; omega
    simp only [if_pos this]
  have ad : gAdd (oL F) (oL N) μ = some (oL (je G F o)) := by
    rw [adL (by rw [List.length_map, List.length_map]; omega), ← List.map_append]
    unfold je
    rw [← eN]
  unfold lb
  unfold slL at el ⊢
  generalize pG b G = t at *
  generalize oL (je G F o) = q3 at *
  generalize oL N = q2 at *
  have vf : ∀ μ, vOf (some (some (oL F))) μ = .ok (oL F) μ := fun _ => rfl
  generalize oL F = q at *
  simp [eVar_run, vf, el, ad]
theorem lb_loop (W : Web G) (o3 : Option D) (μ : Mem) : ∀ (ys F : List Int) (o4 : Option D), (∀ y ∈ ys, y ∈ keysG G) → F.Nodup → (∀ z ∈ F, z ∈ keysG G) → ∃ p4, loopS (gNm 4) lb (ys.map D.int) (slL b G x F o3 o4) μ = .nx (slL b G x (ys.foldl (je G) F) o3 p4) μ
  | [], F, o4, _, _, _ => ⟨o4, rfl⟩
  | y :: ys, F, o4, hy, nd, hF => by
    have few := W.few
    have kl : (keysG G).length = G.length := List.length_map _
    have fl := sub_len nd hF
    have t := lb_run (b := b) (x := x) W (F := F) (hy y (.head _)) (by omega) o3 μ
    obtain ⟨p4, h⟩ := lb_loop W o3 μ ys (je G F y) (some (.int y)) (fun z hz => hy z (.tail _ hz)) (nodup_je W nd) (fun z hz => by
      rcases mem_je.mp hz with q | q
      · exact hF z q
      · exact (W.link (hy y (.head _)) q).1)
    exact ⟨p4, by rw [List.map_cons, loopS_nx (show gNm 4 (.int y) (slL b G x F o3 o4) μ = .nx (slL b G x F o3 (some (.int y))) μ from rfl) t]; exact h⟩
theorem lr_loop (W : Web G) (μ : Mem) : ∀ (n : Nat) (ds : List D) (F : List Int) (o3 o4 : Option D), ds.length = n → F.Nodup → (∀ z ∈ F, z ∈ keysG G) → ∃ p3 p4, loopS (gNm 3) lr ds (slL b G x F o3 o4) μ = .nx (slL b G x (jn G n F) p3 p4) μ
  | 0, ds, F, o3, o4, hl, _, _ => by
    rw [List.length_eq_zero_iff.mp hl]
    exact ⟨o3, o4, rfl⟩
  | n + 1, [], F, o3, o4, hl, _, _ => by cases hl
  | n + 1, d :: ds, F, o3, o4, hl, nd, hF => by
    obtain ⟨p4, h⟩ := lb_loop (b := b) (x := x) W (some d) μ F F o4 hF nd hF
    have t : lr (slL b G x F (some d) o4) μ = .nx (slL b G x (jr G F) (some d) p4) μ := by
      have it : iSeq (eAs gList (aCons (eVar 2) aNil)) (slL b G x F (some d) o4) μ = .ok (F.map D.int) μ := rfl
      unfold lr
      rw [sFor_run, it, bindS_ok]; exact h
    obtain ⟨p3, p4', h2⟩ := lr_loop W μ n ds (jr G F) (some d) p4 (by simpa using hl) (nodup_jf W F F nd) (jf_key W F F hF hF)
    exact ⟨p3, p4', by rw [loopS_nx (show gNm 3 d (slL b G x F o3 o4) μ = .nx (slL b G x F (some d) o4) μ from rfl) t]; exact h2⟩
theorem lawE_run (W : Web G) (hx : x ∈ keysG G) : ∃ R, IsE G x R ∧ ∀ μ, callP f__law_elders [pG b G, .int x] μ = .ok (oL R) μ := by
  have few := W.few
  have ie := jn_isE W hx
  refine ⟨_, ie, fun μ => ?_⟩
  have nd : [x].Nodup := by simp
  have hF : ∀ z ∈ [x], z ∈ keysG G := fun z hz => by rw [List.mem_singleton.mp hz]; exact hx
  obtain ⟨p3, p4, h⟩ := lr_loop (b := b) (x := x) W [] G.length ((List.range G.length).map fun (k : Nat) => D.int (k : Int)) [x] none none (by rw [List.length_map, List.length_range]) nd hF
  have nd2 := nodup_jn W G.length [x] nd
  have sb : ∀ z ∈ jn G G.length [x], z ∈ keysG G := fun z hz => by
    obtain ⟨u, hu, r, _, w⟩ := (mem_jn _ _ _).mp hz
    rw [List.mem_singleton.mp hu] at w
    exact (w.rank W hx).2
  have kl : (keysG G).length = G.length := List.length_map _
  have jl := sub_len nd2 sb
  have sl := srtU_sub (xs := jn G G.length [x]) sb
  have rn : iRange1 (aCons (eAs gLenB (aCons (eVar 0) aNil)) aNil) (slL b G x [x] none none) [] = .ok ((List.range G.length).map fun (k : Nat) => D.int (k : Int)) [] := by
    refine range1_run ?_ (by omega)
    have l := lnI (b := b) (G := G)
    have v : ∀ μ, vOf (some (some (pG b G))) μ = .ok (pG b G) μ := fun _ => rfl
    unfold slL
    generalize pG b G = t at *
    simp [eVar_run, v, l]
  have s1 : sAsg (eAs gLstD (aCons (eVar 1) aNil)) (gNm 2) [some (pG b G), some (.int x), none, none, none, none] [] = .nx (slL b G x [x] none none) [] := rfl
  have s2 : sFor (iRange1 (aCons (eAs gLenB (aCons (eVar 0) aNil)) aNil)) (gNm 3) lr (slL b G x [x] none none) [] = .nx (slL b G x (jn G G.length [x]) p3 p4) [] := by
    rw [sFor_run, rn, bindS_ok]; exact h
  have s3 : sRet (eAs gSrtSet (aCons (eVar 2) aNil)) (slL b G x (jn G G.length [x]) p3 p4) [] = .ret (oL (srtU (jn G G.length [x]))) [] := by
    have := srtSet_lst (μ := []) (xs := jn G G.length [x]) (by omega) (by omega)
    unfold slL
    generalize pG b G = t at *
    have vf : ∀ μ, vOf (some (some (oL (jn G G.length [x])))) μ = .ok (oL (jn G G.length [x])) μ := fun _ => rfl
    generalize oL (srtU (jn G G.length [x])) = q2 at *
    generalize oL (jn G G.length [x]) = q at *
    simp [eVar_run, vf, this]
  exact callP_ok (μ' := []) (body_ret (δ := [some (pG b G), some (.int x), none, none, none, none]) rfl ((congrFun (congrFun le_f _) _).trans <| (seq_nx s1).trans <| (seq_nx s2).trans s3)) (pG_ls rfl) (by show locBs false 0 _ = true; exact loc_ints _ _ _)
end
end K61
set_option Elab.async false
set_option linter.all false
set_option maxRecDepth 100000
namespace K61
open PySem PySem.Spec PyProof.Rows L2 Kw El
section
variable {b : Bool} {G : Lk} {x e : Int}
abbrev oWs (ws : List (List Int)) : D := .lst (ws.map oT)
def yE1 : EM := (eLc (iSeq (eVar 4)) (gNm 7) (tBl (e2 gEq (e2 gIx (eVar 7) (e1 gNeg (eC (.int 1)))) (eVar 2))) (eVar 7) [7])
def y1 : SM := (sAsg (e2 gAdd (eVar 3) yE1) (gNm 3))
def y2 : SM := (sAsg (eAs gLstD aNil) (gNm 6))
def yE3 : EM := (eLc (iSeq (e2 gIxD (eVar 0) (e2 gIx (eVar 7) (e1 gNeg (eC (.int 1)))))) (gNm 8) tYesM (e2 gAdd (eVar 7) (eAs gTupD (aCons (eVar 8) aNil))) [8])
def y3 : SM := (sAsg (e2 gAdd (eVar 6) yE3) (gNm 6))
def y4 : SM := (sAsg (eSl (eVar 6) oNo (oSome (eC (.int 600)))) (gNm 4))
def yb : SM := sSeq y1 (sSeq y2 (sSeq (sFor (iSeq (eVar 4)) (gNm 7) y3) y4))
def y0 : SM := (sPar 3 4 (aCons (eAs gLstD aNil) (aCons (eAs gLstD (aCons (eAs gTupD (aCons (eVar 1) aNil)) aNil)) aNil)))
theorem ly_f : m__law_ways = sSeq y0 (sSeq (sFor (iRange1 (aCons (e2 gAdd (eAs gLenB (aCons (eVar 0) aNil)) (eC (.int 1))) aNil)) (gNm 5) yb) (sRet (eVar 3))) := rfl
theorem ix_l {w : List Int} (h : w ≠ []) (μ : Mem) : gIx (oT w) (.int (-1)) μ = some (.int (lastI w)) := by
  rcases List.eq_nil_or_concat w with rfl | ⟨r, y, rfl⟩
  · exact absurd rfl h
  · rw [List.concat_eq_append]
    have e : seqOf μ (oT (r ++ [y])) = some (r.map D.int ++ [.int y]) := by
      show some ((r ++ [y]).map D.int) = _
      rw [List.map_append]; rfl
    have : lastI (r ++ [y]) = y := by unfold lastI; exact List.getLastD_concat
    rw [this]
    unfold gIx
    simp only [e]
    unfold atI ixN
    rw [if_neg (by omega)]
    have te : (-1 + (((r.map D.int).length : Int) + 1)).toNat = (r.map D.int).length := by omega
    rw [if_pos (by simp only [List.length_append, List.length_singleton]; omega)]
    simp only [List.length_append, List.length_singleton, Int.natCast_add, Int.natCast_one, te]
    simp
theorem ngn (μ : Mem) : gNeg (.int 1) μ = some (.int (-1)) := rfl
abbrev slY (b : Bool) (G : Lk) (x e : Int) (F L : List (List Int)) (o5 o6 o7 : Option D) : Sv := [some (pG b G), some (.int x), some (.int e), some (oWs F), some (oWs L), o5, o6, o7, none]
theorem y1_run {F L : List (List Int)} (hn : ∀ w ∈ L, w ≠ []) (hF : F.length ≤ 100000) (hL : L.length ≤ 1000) (o5 o6 o7 : Option D) (μ : Mem) : y1 (slY b G x e F L o5 o6 o7) μ = .nx (slY b G x e (F ++ L.filter fun w => lastI w == e) L o5 o6 o7) μ := by
  obtain ⟨N, eN⟩ : ∃ N, N = L.filter fun w => lastI w == e := ⟨_, rfl⟩
  have nl : N.length ≤ 1000 := by rw [eN]; exact Nat.le_trans (List.length_filter_le _ _) hL
  have lc : lcL (gNm 7) (tBl (e2 gEq (e2 gIx (eVar 7) (e1 gNeg (eC (.int 1)))) (eVar 2))) (eVar 7) (slY b G x e F L o5 o6 none) (L.map oT) μ = .ok (N.map oT) μ := by
    rw [eN]
    refine lcL_filt (e := oT) (t := fun w => lastI w == e) (f := oT) L ?_
    intro w hw
    refine ⟨?_, fun _ => rfl⟩
    have ix := ix_l (hn w hw)
    have vw : ∀ μ, vOf (some (some (oT w))) μ = .ok (oT w) μ := fun _ => rfl
    show tBl (e2 gEq (e2 gIx (eVar 7) (e1 gNeg (eC (.int 1)))) (eVar 2)) [some (pG b G), some (.int x), some (.int e), some (oWs F), some (oWs L), o5, o6, some (oT w), none] μ = _
    generalize pG b G = t at *
    generalize oWs F = t1 at *
    generalize oWs L = t2 at *
    generalize oT w = t3 at *
    simp [eVar_run, vw, ix, ngn]
  have el : yE1 (slY b G x e F L o5 o6 o7) μ = .ok (oWs N) μ := by
    unfold yE1
    rw [eLc_run, show iSeq (eVar 4) (slY b G x e F L o5 o6 o7) μ = .ok (L.map oT) μ from rfl, bind_ok, show wipeD (slY b G x e F L o5 o6 o7) [7] = slY b G x e F L o5 o6 none from rfl, lc]
    have : (N.map oT).length ≤ sizeLine := by rw [List.length_map]; show _ ≤ 2 ^ 24; omega
    simp only [if_pos this]
  have ad : gAdd (oWs F) (oWs N) μ = some (oWs (F ++ N)) := by
    rw [adL (by rw [List.length_map, List.length_map]; omega), ← List.map_append]
  rw [← eN]
  have vf : ∀ μ, vOf (some (some (oWs F))) μ = .ok (oWs F) μ := fun _ => rfl
  unfold y1
  unfold slY at el ⊢
  generalize pG b G = t at *
  generalize oWs (F ++ N) = q3 at *
  generalize oWs N = q2 at *
  generalize oWs F = q at *
  generalize oWs L = q4 at *
  simp [eVar_run, vf, el, ad]
abbrev slZ (b : Bool) (G : Lk) (x e : Int) (F L : List (List Int)) (o5 : Option D) (M : List (List Int)) (o7 : Option D) : Sv := [some (pG b G), some (.int x), some (.int e), some (oWs F), some (oWs L), o5, some (oWs M), o7, none]
def nxt (G : Lk) (w : List Int) : List (List Int) := (lnk G (lastI w)).map fun y => w ++ [y]
theorem y3_run (W : Web G) {F L M : List (List Int)} {w : List Int} (hw : w ≠ []) (hl : lastI w ∈ keysG G) (hs : w.length ≤ 900) (hM : M.length ≤ 1000) (o5 : Option D) (μ : Mem) : y3 (slZ b G x e F L o5 M (some (oT w))) μ = .nx (slZ b G x e F L o5 (M ++ nxt G w) (some (oT w))) μ := by
  have v : ∀ μ, vOf (some (some (pG b G))) μ = .ok (pG b G) μ := fun _ => rfl
  have ix := pG_ix (b := b) (μ := μ) hl
  have sq := sqI_seq (b := b) (xs := lnk G (lastI w))
  have f2 : (lnk G (lastI w)).length ≤ 12 := (W.ln _ (lnk_in hl)).1
  have i1 := ix_l hw
  have vw : ∀ μ, vOf (some (some (oT w))) μ = .ok (oT w) μ := fun _ => rfl
  have lc : lcL (gNm 8) tYesM (e2 gAdd (eVar 7) (eAs gTupD (aCons (eVar 8) aNil))) (slZ b G x e F L o5 M (some (oT w))) ((lnk G (lastI w)).map D.int) μ = .ok ((lnk G (lastI w)).map fun y => oT (w ++ [y])) μ := by
    refine lcL_map (e := D.int) (f := fun y => oT (w ++ [y])) _ ?_
    intro y _
    have a1 := ad1 (p := w) (y := y) (by omega)
    have tp : ∀ μ, gTupD [.int y] μ = some (.tup [.int y]) := fun _ => rfl
    show e2 gAdd (eVar 7) (eAs gTupD (aCons (eVar 8) aNil)) [some (pG b G), some (.int x), some (.int e), some (oWs F), some (oWs L), o5, some (oWs M), some (oT w), some (.int y)] μ = _
    generalize pG b G = t at *
    generalize oWs F = t1 at *
    generalize oWs L = t2 at *
    generalize oWs M = t4 at *
    generalize oT (w ++ [y]) = t5 at *
    generalize oT w = t3 at *
    simp [eVar_run, vw, a1, tp]
  have em : (lnk G (lastI w)).map (fun y => oT (w ++ [y])) = (nxt G w).map oT := by unfold nxt; rw [List.map_map]; rfl
  have nl : (nxt G w).length ≤ 12 := by unfold nxt; rw [List.length_map]; exact f2
  have el : yE3 (slZ b G x e F L o5 M (some (oT w))) μ = .ok (oWs (nxt G w)) μ := by
    have it : iSeq (e2 gIxD (eVar 0) (e2 gIx (eVar 7) (e1 gNeg (eC (.int 1))))) (slZ b G x e F L o5 M (some (oT w))) μ = .ok ((lnk G (lastI w)).map D.int) μ := by
      unfold slZ
      generalize pG b G = t at *
      generalize sqI b (lnk G (lastI w)) = u at *
      generalize oWs F = t1 at *
      generalize oWs L = t2 at *
      generalize oWs M = t4 at *
      generalize oT w = t3 at *
      simp [eVar_run, v, vw, i1, ngn, ix, sq]
    unfold yE3
    rw [eLc_run, it, bind_ok, show wipeD (slZ b G x e F L o5 M (some (oT w))) [8] = slZ b G x e F L o5 M (some (oT w)) from rfl, lc, em]
    have : ((nxt G w).map oT).length ≤ sizeLine := by rw [List.length_map]; show _ ≤ 2 ^ 24; omega
    simp only [if_pos this]
  have ad : gAdd (oWs M) (oWs (nxt G w)) μ = some (oWs (M ++ nxt G w)) := by
    rw [adL (by rw [List.length_map, List.length_map]; omega), ← List.map_append]
  have vm : ∀ μ, vOf (some (some (oWs M))) μ = .ok (oWs M) μ := fun _ => rfl
  unfold y3
  unfold slZ at el ⊢
  generalize pG b G = t at *
  generalize oWs (M ++ nxt G w) = q3 at *
  generalize oWs (nxt G w) = q2 at *
  generalize oWs M = q at *
  generalize oWs F = q5 at *
  generalize oWs L = q4 at *
  simp [eVar_run, vm, el, ad]
theorem y3_loop (W : Web G) {F L : List (List Int)} (o5 : Option D) (μ : Mem) : ∀ (ws M : List (List Int)) (o7 : Option D), (∀ w ∈ ws, w ≠ [] ∧ lastI w ∈ keysG G ∧ w.length ≤ 900) → (M ++ ws.flatMap (nxt G)).length ≤ 1000 → ∃ p7, loopS (gNm 7) y3 (ws.map oT) (slZ b G x e F L o5 M o7) μ = .nx (slZ b G x e F L o5 (M ++ ws.flatMap (nxt G)) p7) μ
  | [], M, o7, _, _ => ⟨o7, by rw [List.flatMap_nil, List.append_nil]; rfl⟩
  | w :: ws, M, o7, h, hl => by
    rw [List.flatMap_cons, ← List.append_assoc] at hl
    obtain ⟨h1, h2, h3⟩ := h w (.head _)
    have hM : M.length ≤ 1000 := by rw [List.length_append, List.length_append] at hl; omega
    have t := y3_run (b := b) (x := x) (e := e) (F := F) (L := L) W h1 h2 h3 hM o5 μ
    obtain ⟨p7, q⟩ := y3_loop W o5 μ ws (M ++ nxt G w) (some (oT w)) (fun z hz => h z (.tail _ hz)) hl
    refine ⟨p7, ?_⟩
    rw [List.map_cons, loopS_nx (show gNm 7 (oT w) (slZ b G x e F L o5 M o7) μ = .nx (slZ b G x e F L o5 M (some (oT w))) μ from rfl) t, q, List.flatMap_cons, List.append_assoc]
theorem lay_ne (W : Web G) (hx : x ∈ keysG G) {n : Nat} : ∀ w ∈ lay G x n, w ≠ [] ∧ lastI w ∈ keysG G ∧ w.length ≤ 900 := fun w hw => by
  obtain ⟨r, z, rfl, _, h⟩ := (mem_lay n w).mp hw
  refine ⟨by simp, ?_, ?_⟩
  · rw [h.last]; exact (h.rank W hx).2
  · have := (h.rank W hx).1
    have := rk_lt hx
    have := W.few
    rw [List.length_cons]; omega
theorem wys_len (W : Web G) (hx : x ∈ keysG G) : ∀ n, n ≤ 13 → (wys G x e n).length ≤ 600 * n
  | 0, _ => Nat.zero_le _
  | n + 1, h => by
    unfold wys
    rw [List.length_append]
    have := wys_len W hx n (by omega)
    have := lay_few W hx (t := n) (by omega)
    have := List.length_filter_le (fun w => lastI w == e) (lay G x n)
    omega
theorem yb_run (W : Web G) (hx : x ∈ keysG G) {n : Nat} (hn : n < 13) (o5 o6 o7 : Option D) (μ : Mem) : ∃ p6 p7, yb (slY b G x e (wys G x e n) (lay G x n) o5 o6 o7) μ = .nx (slY b G x e (wys G x e (n + 1)) (lay G x (n + 1)) o5 p6 p7) μ := by
  have wl := wys_len (e := e) W hx n (by omega)
  have l1 := lay_few W hx (t := n) (by omega)
  have l2 := lay_few W hx (t := n + 1) (by omega)
  have ne := lay_ne W hx (n := n)
  have s1 := y1_run (b := b) (G := G) (x := x) (e := e) (F := wys G x e n) (L := lay G x n) (fun w hw => (ne w hw).1) (by omega) (by omega) o5 o6 o7 μ
  obtain ⟨p7, s3⟩ := y3_loop (b := b) (x := x) (e := e) (F := wys G x e (n + 1)) (L := lay G x n) W o5 μ (lay G x n) [] o7 ne (by
    rw [List.nil_append]
    exact Nat.le_trans l2 (by omega))
  refine ⟨some (oWs (lay G x (n + 1))), p7, ?_⟩
  have s2 : y2 (slY b G x e (wys G x e (n + 1)) (lay G x n) o5 o6 o7) μ = .nx (slZ b G x e (wys G x e (n + 1)) (lay G x n) o5 [] o7) μ := rfl
  have s3' : sFor (iSeq (eVar 4)) (gNm 7) y3 (slZ b G x e (wys G x e (n + 1)) (lay G x n) o5 [] o7) μ = .nx (slZ b G x e (wys G x e (n + 1)) (lay G x n) o5 (lay G x (n + 1)) p7) μ := by
    rw [sFor_run, show iSeq (eVar 4) (slZ b G x e (wys G x e (n + 1)) (lay G x n) o5 [] o7) μ = .ok ((lay G x n).map oT) μ from rfl, bindS_ok]
    exact s3
  have s4 : y4 (slZ b G x e (wys G x e (n + 1)) (lay G x n) o5 (lay G x (n + 1)) p7) μ = .nx (slY b G x e (wys G x e (n + 1)) (lay G x (n + 1)) o5 (some (oWs (lay G x (n + 1)))) p7) μ := by
    have sl : gSl (oWs (lay G x (n + 1))) none (some 600) μ = some (oWs (lay G x (n + 1))) := by
      show some (D.lst (Kw.cutD ((lay G x (n + 1)).map oT) none (some 600))) = _
      unfold Kw.cutD HT.sIx
      have e6 : ¬ (600 : Int) < 0 := by omega
      simp only [List.length_map, e6, if_false, List.drop_zero, Nat.sub_zero]
      rw [List.take_of_length_le]
      rw [List.length_map]
      show _ ≤ min 600 _
      omega
    have vm : ∀ μ, vOf (some (some (oWs (lay G x (n + 1))))) μ = .ok (oWs (lay G x (n + 1))) μ := fun _ => rfl
    have so : oSome (eC (.int 600)) (slZ b G x e (wys G x e (n + 1)) (lay G x n) o5 (lay G x (n + 1)) p7) μ = .ok (some 600) μ := rfl
    unfold y4
    rw [sAsg_run]
    unfold eSl
    rw [show eVar 6 (slZ b G x e (wys G x e (n + 1)) (lay G x n) o5 (lay G x (n + 1)) p7) μ = .ok (oWs (lay G x (n + 1))) μ from rfl, bind_ok, show oNo (slZ b G x e (wys G x e (n + 1)) (lay G x n) o5 (lay G x (n + 1)) p7) μ = .ok none μ from rfl, bind_ok, so, bind_ok, sl]
    rfl
  exact (seq_nx s1).trans <| (seq_nx s2).trans <| (seq_nx s3').trans s4
theorem yb_loop (W : Web G) (hx : x ∈ keysG G) (μ : Mem) : ∀ (ds : List D) (n : Nat) (o5 o6 o7 : Option D), n + ds.length ≤ 13 → ∃ p5 p6 p7, loopS (gNm 5) yb ds (slY b G x e (wys G x e n) (lay G x n) o5 o6 o7) μ = .nx (slY b G x e (wys G x e (n + ds.length)) (lay G x (n + ds.length)) p5 p6 p7) μ
  | [], n, o5, o6, o7, _ => ⟨o5, o6, o7, rfl⟩
  | d :: ds, n, o5, o6, o7, h => by
    rw [List.length_cons] at h
    obtain ⟨p6, p7, t⟩ := yb_run (b := b) (e := e) W hx (n := n) (by omega) (some d) o6 o7 μ
    obtain ⟨q5, q6, q7, q⟩ := yb_loop W hx μ ds (n + 1) (some d) p6 p7 (by omega)
    refine ⟨q5, q6, q7, ?_⟩
    rw [loopS_nx (show gNm 5 d (slY b G x e (wys G x e n) (lay G x n) o5 o6 o7) μ = .nx (slY b G x e (wys G x e n) (lay G x n) (some d) o6 o7) μ from rfl) t, q, List.length_cons, show n + 1 + ds.length = n + (ds.length + 1) by omega]
theorem pG_ls3 {d d2 : D} (h : locB false 0 d = true) (h2 : locB false 0 d2 = true) : locBs false 0 [pG b G, d, d2] = true := by
  show (locB false 0 (pG b G) && (locB false 0 d && (locB false 0 d2 && true))) = true
  rw [pG_loc, h, h2]; rfl
theorem ways_run (W : Web G) (hx : x ∈ keysG G) (μ : Mem) : callP f__law_ways [pG b G, .int x, .int e] μ = .ok (oWs (wys G x e (G.length + 1))) μ := by
  have few := W.few
  obtain ⟨p5, p6, p7, h⟩ := yb_loop (b := b) (e := e) W hx [] ((List.range (G.length + 1)).map fun (k : Nat) => D.int (k : Int)) 0 none none none (by rw [List.length_map, List.length_range]; omega)
  rw [List.length_map, List.length_range, Nat.zero_add] at h
  have rn : iRange1 (aCons (e2 gAdd (eAs gLenB (aCons (eVar 0) aNil)) (eC (.int 1))) aNil) (slY b G x e [] [[x]] none none none) [] = .ok ((List.range (G.length + 1)).map fun (k : Nat) => D.int (k : Int)) [] := by
    refine range1_run ?_ (by omega)
    have l := lnI (b := b) (G := G)
    have v : ∀ μ, vOf (some (some (pG b G))) μ = .ok (pG b G) μ := fun _ => rfl
    unfold slY
    generalize pG b G = t at *
    simp [eVar_run, v, l]
  have s1 : y0 [some (pG b G), some (.int x), some (.int e), none, none, none, none, none, none] [] = .nx (slY b G x e [] [[x]] none none none) [] := rfl
  have s2 : sFor (iRange1 (aCons (e2 gAdd (eAs gLenB (aCons (eVar 0) aNil)) (eC (.int 1))) aNil)) (gNm 5) yb (slY b G x e [] [[x]] none none none) [] = .nx (slY b G x e (wys G x e (G.length + 1)) (lay G x (G.length + 1)) p5 p6 p7) [] := by
    rw [sFor_run, rn, bindS_ok]; exact h
  exact callP_ok (μ' := []) (body_ret (δ := [some (pG b G), some (.int x), some (.int e), none, none, none, none, none, none]) rfl ((congrFun (congrFun ly_f _) _).trans <| (seq_nx s1).trans <| (seq_nx s2).trans rfl)) (pG_ls3 rfl rfl) (by
    show locBs false 0 _ = true
    exact loc_map _ fun w _ => (by show locBs false 0 _ = true; exact loc_ints _ _ _))
end
end K61
set_option Elab.async false
set_option linter.all false
set_option maxRecDepth 100000
namespace K61
open PySem PySem.Spec PyProof.Rows L2 Kw El
theorem oL_v (xs : List Int) (μ : Mem) : vOf (some (some (oL xs))) μ = .ok (oL xs) μ := rfl
theorem in_oL (y : Int) (xs : List Int) (μ : Mem) : gIn (.int y) (oL xs) μ = some (.bl (decide (y ∈ xs))) := by
  have e : xs.contains y = decide (y ∈ xs) := by simp
  unfold gIn gOr2 gInF inF
  simp only [seqOf, lstOf, tupOf, flat_map_ints, flatD, Bool.and_self, if_true, eqF_map_ints, Option.map_some, e]
theorem nin_oL (y : Int) (xs : List Int) (μ : Mem) : gNin (.int y) (oL xs) μ = some (.bl !decide (y ∈ xs)) := by
  have := nin_ints y xs μ
  have e : xs.contains y = decide (y ∈ xs) := by simp
  rw [e] at this
  exact this
section
variable {G : Lk} {x y : Int} {R R' N : List Int}
theorem comm_sorted (h : IsE G x R) : (comm R R').Pairwise (· < ·) := h.1.filter _
theorem comm_swap (h : IsE G x R) (h' : IsE G y R') : comm R' R = comm R R' := lt_mem_eq (comm_sorted h') (comm_sorted h) fun z => by
  rw [common_iff h' h, common_iff h h', and_comm]
theorem comm_key (W : Web G) (hx : x ∈ keysG G) (h : IsE G x R) : ∀ c ∈ comm R R', c ∈ keysG G := fun c hc => (((h.2 c).mp (List.mem_filter.mp hc).1).key W hx).1
theorem near_of (W : Web G) {C : List Int} (hC : ∀ c ∈ C, c ∈ keysG G) (hs : C.Pairwise (· < ·)) {t : Int → Bool} (ht : ∀ a ∈ C, t a = true ↔ ∀ c ∈ C, ¬ (c ≠ a ∧ Up G c a)) : IsN G C (C.filter t) := ⟨hs.filter _, fun z => by
  rw [List.mem_filter]
  refine and_congr_right fun hz => ?_
  rw [ht z hz, far_iff W hC]
  exact ⟨fun h ⟨c, hc, q⟩ => h c hc q, fun h c hc q => h ⟨c, hc, q⟩⟩⟩
theorem near_one (W : Web G) (hx : x ∈ keysG G) (h : IsE G x R) (h' : IsE G y R') (hN : IsN G (comm R R') N) (hm : x ∈ R') : N = [x] := by
  have hC := comm_key (R' := R') W hx h
  have ci := common_iff h h'
  have xc : x ∈ comm R R' := (ci x).mpr ⟨.rf, (h'.2 x).mp hm⟩
  refine hN.eq ⟨by simp, fun z => ?_⟩
  rw [List.mem_singleton, far_iff W hC]
  constructor
  · rintro rfl
    refine ⟨xc, fun ⟨c, hc, hne, hu⟩ => hne ?_⟩
    exact (hu.asym W (hC c hc) ((ci c).mp hc).1)
  · rintro ⟨hz, hf⟩
    by_cases e : z = x
    · exact e
    · exact absurd ⟨x, xc, fun q => e q.symm, ((ci z).mp hz).1⟩ hf
end
def pq1 : EM := (eLc (iSeq (eCallP f__law_elders (aCons (eVar 0) (aCons (eVar 1) aNil)))) (gNm 5) (tBl (e2 gIn (eVar 5) (eCallP f__law_elders (aCons (eVar 0) (aCons (eVar 2) aNil))))) (eVar 5) [5])
def pq2i : EM := (eLc (iSeq (eVar 3)) (gNm 6) (tAndM (tBl (e2 gNe (eVar 6) (eVar 5))) (tBl (e2 gIn (eVar 5) (eCallP f__law_elders (aCons (eVar 0) (aCons (eVar 6) aNil)))))) (eVar 6) [6])
def pq2 : EM := (eLc (iSeq (eVar 3)) (gNm 5) (tBl (e2 gEq pq2i (eAs gLstD aNil))) (eVar 5) [5])
def pq3 : SM := (sIf (tBl (e2 gNe (eAs gRepr (aCons (eAs gLstD (aCons (eCallP f_common_elders (aCons (eVar 0) (aCons (eVar 1) (aCons (eVar 2) aNil)))) (aCons (eCallP f_nearest_common (aCons (eVar 0) (aCons (eVar 1) (aCons (eVar 2) aNil)))) aNil))) aNil)) (eAs gRepr (aCons (eAs gLstD (aCons (eAs gTuple (aCons (eVar 3) aNil)) (aCons (eAs gTuple (aCons (eVar 4) aNil)) aNil))) aNil)))) (sRet (eC (.bl false))) sNext)
def pq4 : SM := (sIf (tOrM (tBl (e2 gNe (eCallK0 f_nearest_common [2, 1, 0] (aCons (eVar 1) (aCons (eVar 2) (aCons (eVar 0) aNil)))) (eAs gTuple (aCons (eVar 4) aNil)))) (tBl (e2 gNe (eCallK0 f_common_elders [2, 1, 0] (aCons (eVar 1) (aCons (eVar 2) (aCons (eVar 0) aNil)))) (eAs gTuple (aCons (eVar 3) aNil))))) (sRet (eC (.bl false))) sNext)
def pq5i : EM := (eLc (iSeq (eVar 4)) (gNm 6) (tBl (e2 gIn (eVar 5) (eCallP f__law_elders (aCons (eVar 0) (aCons (eVar 6) aNil))))) (eVar 6) [6])
def pq5e : EM := (eLc (iSeq (eVar 3)) (gNm 5) (tBl (e2 gEq pq5i (eAs gLstD aNil))) (eVar 5) [5])
def pq5 : SM := (sIf (tBl (e2 gNe pq5e (eAs gLstD aNil))) (sRet (eC (.bl false))) sNext)
def pq6 : SM := (sRet (eOrM (e2 gNin (eVar 1) (eCallP f__law_elders (aCons (eVar 0) (aCons (eVar 2) aNil)))) (e2 gEq (eVar 4) (eAs gLstD (aCons (eVar 1) aNil)))))
theorem pr_f : m__law_pair_right = sSeq (sAsg pq1 (gNm 3)) (sSeq (sAsg pq2 (gNm 4)) (sSeq pq3 (sSeq pq4 (sSeq pq5 pq6)))) := rfl
/-- a comprehension that picks numbers -/
theorem eLc_pick {mi : IM} {i : Nat} {mt : TM} {δ δ' : Sv} {μ : Mem} {t : Int → Bool} (xs : List Int) (h1 : mi δ μ = .ok (xs.map D.int) μ) (hl : xs.length ≤ 1000000) (hw : wipeD δ [i] = δ') (hi : ∀ a : Int, eVar i (δ'.set i (some (.int a))) μ = .ok (.int a) μ) (ht : ∀ a ∈ xs, mt (δ'.set i (some (.int a))) μ = .ok (t a) μ) : eLc mi (gNm i) mt (eVar i) [i] δ μ = .ok (oL (xs.filter t)) μ := by
  have lc : lcL (gNm i) mt (eVar i) δ' (xs.map D.int) μ = .ok ((xs.filter t).map D.int) μ := by
    refine lcL_filt (e := D.int) (t := t) (f := D.int) xs ?_
    intro a ha
    exact ⟨ht a ha, fun _ => hi a⟩
  rw [eLc_run, h1, bind_ok, hw, lc]
  have : ((xs.filter t).map D.int).length ≤ sizeLine := by
    rw [List.length_map]
    have := List.length_filter_le t xs
    show _ ≤ 2 ^ 24
    omega
  simp only [if_pos this]
theorem rep2 {C N : List Int} (hC : ∀ z ∈ C, 0 ≤ z ∧ z < 900) (hN : ∀ z ∈ N, 0 ≤ z ∧ z < 900) (lC : C.length ≤ 12) (lN : N.length ≤ 12) : ∃ s, (∀ μ, gRepr [.lst [oT C, oT N]] μ = some (.str s)) ∧ ∀ μ, gNe (.str s) (.str s) μ = some (.bl false) := by
  have sm : ∀ {L : List Int}, (∀ z ∈ L, 0 ≤ z ∧ z < 900) → L.length ≤ 12 → Sm 1 12 (oT L) := fun {L} h hl => .tup (w := 0) (fun d hd => by
    obtain ⟨z, hz, rfl⟩ := List.mem_map.mp hd
    have := h z hz
    exact .int (by omega)) (by rw [List.length_map]; omega)
  have s2 : Sm 2 100 (.lst [oT C, oT N]) := .lst (w := 12) (fun d hd => by
    simp only [List.mem_cons, List.not_mem_nil, or_false] at hd
    rcases hd with rfl | rfl
    · exact sm hC lC
    · exact sm hN lN) (by simp)
  obtain ⟨s, h1, h2⟩ := s2.repr (by omega) (by omega)
  exact ⟨s, h2, str_nes h1⟩
section
variable {b : Bool} {G : Lk} {x y : Int}
theorem pair_run (W : Web G) (hr : ∀ z ∈ keysG G, 0 ≤ z ∧ z < 900) (hx : x ∈ keysG G) (hy : y ∈ keysG G) (μ : Mem) : callP f__law_pair_right [pG b G, .int x, .int y] μ = .ok (.bl true) μ := by
  obtain ⟨R, R', N, h, h', hN, hNk, en⟩ := near_run (b := b) W hx hy
  obtain ⟨Q', Q, N2, g', g, hN2, _, en2⟩ := near_run (b := b) W hy hx
  have eQ : Q = R := g.eq h
  have eQ' : Q' = R' := g'.eq h'
  subst eQ eQ'
  rw [comm_swap h h'] at hN2
  have eN := hN2.eq hN
  subst eN
  obtain ⟨R1, R2, k1, k2, ec⟩ := common_run (b := b) W hx hy
  have eQ : R1 = Q := k1.eq h
  have eQ' : R2 = Q' := k2.eq h'
  subst eQ eQ'
  obtain ⟨Q2, Q1, k2', k1', ec2⟩ := common_run (b := b) W hy hx
  have eQ : Q1 = R1 := k1'.eq h
  have eQ' : Q2 = R2 := k2'.eq h'
  subst eQ eQ'
  rw [comm_swap h h'] at ec2
  have lE : ∀ z, ∃ E, z ∈ keysG G → IsE G z E ∧ ∀ μ, callP f__law_elders [pG b G, .int z] μ = .ok (oL E) μ := fun z => by
    by_cases c : z ∈ keysG G
    · obtain ⟨E, a, e⟩ := lawE_run (b := b) W c
      exact ⟨E, fun _ => ⟨a, e⟩⟩
    · exact ⟨[], fun q => absurd q c⟩
  obtain ⟨E, hE⟩ := Classical.axiomOfChoice lE
  have e1x : E x = Q1 := (hE x hx).1.eq h
  have e1y : E y = Q2 := (hE y hy).1.eq h'
  have cx := (hE x hx).2
  have cy := (hE y hy).2
  rw [e1x] at cx
  rw [e1y] at cy
  obtain ⟨C, eC'⟩ : ∃ C, C = comm Q1 Q2 := ⟨_, rfl⟩
  have hC : ∀ c ∈ C, c ∈ keysG G := by rw [eC']; exact comm_key W hx h
  have sC : C.Pairwise (· < ·) := by rw [eC']; exact comm_sorted h
  have lC : C.length ≤ 12 := by rw [eC']; exact Nat.le_trans (List.length_filter_le _ _) (isE_few W hx h)
  rw [← eC'] at hN ec ec2
  have lN : N2.length ≤ 12 := by
    have nd : N2.Nodup := hN.1.imp fun h => by omega
    exact Nat.le_trans (sub_len nd fun z hz => ((hN.2 z).mp hz).1) lC
  have v : ∀ μ, vOf (some (some (pG b G))) μ = .ok (pG b G) μ := fun _ => rfl
  have q1 : ∀ μ, pq1 [some (pG b G), some (.int x), some (.int y), none, none, none, none] μ = .ok (oL C) μ := fun μ => by
    rw [eC']
    unfold pq1 comm
    refine eLc_pick (δ' := [some (pG b G), some (.int x), some (.int y), none, none, none, none]) (t := fun z => decide (z ∈ Q2)) Q1 ?_ (by have := isE_few W hx h; omega) rfl (fun _ => rfl) fun a _ => ?_
    · have sq : seqV (oL Q1) = some (Q1.map D.int) := rfl
      generalize pG b G = t at *
      generalize oL Q1 = t1 at *
      simp [eVar_run, v, cx, sq]
    · have i := in_oL a Q2
      show tBl _ [some (pG b G), some (.int x), some (.int y), none, none, some (.int a), none] μ = _
      generalize pG b G = t at *
      generalize oL Q2 = t1 at *
      simp [eVar_run, v, cy, i]
  let T2 : Int → Bool := fun a => (C.filter fun c => !(c == a) && decide (a ∈ E c)) == []
  have ht2 : ∀ a ∈ C, T2 a = true ↔ ∀ c ∈ C, ¬ (c ≠ a ∧ Up G c a) := fun a _ => by
    show ((C.filter fun c => !(c == a) && decide (a ∈ E c)) == []) = true ↔ _
    rw [beq_iff_eq, List.filter_eq_nil_iff]
    refine ⟨fun q c hc z => q c hc ?_, fun q c hc z => q c hc ?_⟩
    · have := ((hE c (hC c hc)).1.2 a).mpr z.2
      simp [z.1, this]
    · rw [Bool.and_eq_true, decide_eq_true_eq] at z
      exact ⟨by simpa using z.1, ((hE c (hC c hc)).1.2 a).mp z.2⟩
  have eN2 : C.filter T2 = N2 := (near_of W hC sC ht2).eq hN
  have q2i : ∀ (a : Int) (o4 o6 : Option D) μ, pq2i [some (pG b G), some (.int x), some (.int y), some (oL C), o4, some (.int a), o6] μ = .ok (oL (C.filter fun c => !(c == a) && decide (a ∈ E c))) μ := fun a o4 o6 μ => by
    unfold pq2i
    refine eLc_pick (δ' := [some (pG b G), some (.int x), some (.int y), some (oL C), o4, some (.int a), none]) (t := fun c => !(c == a) && decide (a ∈ E c)) C rfl (by omega) rfl (fun _ => rfl) fun c hc => ?_
    have i := in_oL a (E c)
    have cc := (hE c (hC c hc)).2
    show tAndM _ _ [some (pG b G), some (.int x), some (.int y), some (oL C), o4, some (.int a), some (.int c)] μ = .ok (!(c == a) && decide (a ∈ E c)) μ
    generalize pG b G = t at *
    generalize decide (a ∈ E c) = d at *
    generalize oL (E c) = t1 at *
    generalize oL C = t2 at *
    by_cases z : c = a
    · simp [eVar_run, z]
    · simp [eVar_run, z, v, cc, i]
  have q2 : ∀ μ, pq2 [some (pG b G), some (.int x), some (.int y), some (oL C), none, none, none] μ = .ok (oL N2) μ := fun μ => by
    rw [← eN2]
    unfold pq2
    refine eLc_pick (δ' := [some (pG b G), some (.int x), some (.int y), some (oL C), none, none, none]) (t := T2) C rfl (by omega) rfl (fun _ => rfl) fun a _ => ?_
    have i := q2i a none none
    have ge := gEq_oL (μ := μ) (C.filter fun c => !(c == a) && decide (a ∈ E c)) []
    have gn : ∀ μ, gLstD [] μ = some (oL []) := fun _ => rfl
    show tBl _ [some (pG b G), some (.int x), some (.int y), some (oL C), none, some (.int a), none] μ = .ok ((C.filter fun c => !(c == a) && decide (a ∈ E c)) == []) μ
    generalize pG b G = t at *
    generalize ((C.filter fun c => !(c == a) && decide (a ∈ E c)) == []) = d at *
    generalize oL (C.filter fun c => !(c == a) && decide (a ∈ E c)) = t1 at *
    generalize oL C = t2 at *
    generalize oL [] = t3 at *
    generalize pq2i = m at *
    simp [i, ge, gn]
  obtain ⟨s, r1, r2⟩ := rep2 (C := C) (N := N2) (fun z hz => hr z (hC z hz)) (fun z hz => hr z (hC z ((hN.2 z).mp hz).1)) lC lN
  have gd2 : ∀ (d d2 : D) μ, gLstD [d, d2] μ = some (.lst [d, d2]) := fun _ _ _ => rfl
  have gt : ∀ (L : List Int) μ, gTuple [oL L] μ = some (oT L) := fun _ _ => rfl
  have t3 : ∀ μ, pq3 [some (pG b G), some (.int x), some (.int y), some (oL C), some (oL N2), none, none] μ = .nx [some (pG b G), some (.int x), some (.int y), some (oL C), some (oL N2), none, none] μ := fun μ => by
    have g1 := gt C
    have g2 := gt N2
    have v1 := oL_v C
    have v2 := oL_v N2
    unfold pq3
    generalize pG b G = t at *
    generalize oT C = u1 at *
    generalize oT N2 = u2 at *
    generalize oL C = u3 at *
    generalize oL N2 = u4 at *
    simp [eVar_run, v, v1, v2, ec, en, gd2, g1, g2, r1, r2]
  have t4 : ∀ μ, pq4 [some (pG b G), some (.int x), some (.int y), some (oL C), some (oL N2), none, none] μ = .nx [some (pG b G), some (.int x), some (.int y), some (oL C), some (oL N2), none, none] μ := fun μ => by
    have g1 := gt C
    have g2 := gt N2
    have v1 := oL_v C
    have v2 := oL_v N2
    have n1 : ∀ μ, gNe (oT C) (oT C) μ = some (.bl false) := fun μ => by rw [gNe_oT]; simp
    have n2 : ∀ μ, gNe (oT N2) (oT N2) μ = some (.bl false) := fun μ => by rw [gNe_oT]; simp
    unfold pq4
    generalize pG b G = t at *
    generalize oT C = u1 at *
    generalize oT N2 = u2 at *
    generalize oL C = u3 at *
    generalize oL N2 = u4 at *
    simp [eVar_run, v, v1, v2, ec2, en2, g1, g2, n1, n2, permL]
  let T5 : Int → Bool := fun a => (N2.filter fun c => decide (a ∈ E c)) == []
  have e5 : C.filter T5 = [] := List.filter_eq_nil_iff.mpr fun a ha => by
    obtain ⟨c, hc, hu, hf⟩ := above_near W hC (G.length - rk G a) a ha (Nat.le_refl _)
    have cn : c ∈ N2 := (hN.2 c).mpr ⟨hc, hf⟩
    show ¬ ((N2.filter fun c => decide (a ∈ E c)) == []) = true
    rw [beq_iff_eq, List.filter_eq_nil_iff]
    intro q
    exact q c cn (decide_eq_true (((hE c (hC c hc)).1.2 a).mpr hu))
  have q5i : ∀ (a : Int) μ, pq5i [some (pG b G), some (.int x), some (.int y), some (oL C), some (oL N2), some (.int a), none] μ = .ok (oL (N2.filter fun c => decide (a ∈ E c))) μ := fun a μ => by
    unfold pq5i
    refine eLc_pick (δ' := [some (pG b G), some (.int x), some (.int y), some (oL C), some (oL N2), some (.int a), none]) (t := fun c => decide (a ∈ E c)) N2 rfl (by omega) rfl (fun _ => rfl) fun c hc => ?_
    have i := in_oL a (E c)
    have cc := (hE c (hC c ((hN.2 c).mp hc).1)).2
    show tBl _ [some (pG b G), some (.int x), some (.int y), some (oL C), some (oL N2), some (.int a), some (.int c)] μ = .ok (decide (a ∈ E c)) μ
    generalize pG b G = t at *
    generalize decide (a ∈ E c) = d at *
    generalize oL (E c) = t1 at *
    generalize oL C = t2 at *
    generalize oL N2 = t3 at *
    simp [eVar_run, v, cc, i]
  have q5 : ∀ μ, pq5e [some (pG b G), some (.int x), some (.int y), some (oL C), some (oL N2), none, none] μ = .ok (oL []) μ := fun μ => by
    rw [← e5]
    unfold pq5e
    refine eLc_pick (δ' := [some (pG b G), some (.int x), some (.int y), some (oL C), some (oL N2), none, none]) (t := T5) C rfl (by omega) rfl (fun _ => rfl) fun a _ => ?_
    have i := q5i a
    have ge := gEq_oL (μ := μ) (N2.filter fun c => decide (a ∈ E c)) []
    have gn : ∀ μ, gLstD [] μ = some (oL []) := fun _ => rfl
    show tBl _ [some (pG b G), some (.int x), some (.int y), some (oL C), some (oL N2), some (.int a), none] μ = .ok ((N2.filter fun c => decide (a ∈ E c)) == []) μ
    generalize pG b G = t at *
    generalize ((N2.filter fun c => decide (a ∈ E c)) == []) = d at *
    generalize oL (N2.filter fun c => decide (a ∈ E c)) = t1 at *
    generalize oL C = t2 at *
    generalize oL N2 = t4 at *
    generalize oL [] = t3 at *
    generalize pq5i = m at *
    simp [i, ge, gn]
  have t5 : ∀ μ, pq5 [some (pG b G), some (.int x), some (.int y), some (oL C), some (oL N2), none, none] μ = .nx [some (pG b G), some (.int x), some (.int y), some (oL C), some (oL N2), none, none] μ := fun μ => by
    have gn : ∀ μ, gLstD [] μ = some (oL []) := fun _ => rfl
    have ne : ∀ μ, gNe (oL []) (oL []) μ = some (.bl false) := fun μ => by rw [gNe_oL]; rfl
    unfold pq5
    generalize pG b G = t at *
    generalize oL C = t2 at *
    generalize oL N2 = t4 at *
    generalize oL [] = t3 at *
    generalize pq5e = m at *
    simp [q5, gn, ne]
  have t6 : ∀ μ, pq6 [some (pG b G), some (.int x), some (.int y), some (oL C), some (oL N2), none, none] μ = .ret (.bl true) μ := fun μ => by
    have i := nin_oL x Q2
    have v2 := oL_v N2
    have gn : ∀ μ, gLstD [.int x] μ = some (oL [x]) := fun _ => rfl
    unfold pq6
    by_cases c : x ∈ Q2
    · have e7 : N2 = [x] := near_one W hx h h' (by rw [← eC']; exact hN) c
      have ge : ∀ μ, gEq (oL N2) (oL [x]) μ = some (.bl true) := fun μ => by rw [gEq_oL, e7]; simp
      rw [decide_eq_true c] at i
      generalize pG b G = t at *
      generalize oL C = t2 at *
      generalize oL N2 = t4 at *
      generalize oL [x] = t3 at *
      generalize oL Q2 = t5 at *
      simp [eVar_run, v, v2, cy, i, gn, ge]
    · rw [decide_eq_false c] at i
      generalize pG b G = t at *
      generalize oL C = t2 at *
      generalize oL N2 = t4 at *
      generalize oL Q2 = t5 at *
      simp [eVar_run, v, v2, cy, i]
  have a1 : sAsg pq1 (gNm 3) [some (pG b G), some (.int x), some (.int y), none, none, none, none] [] = .nx [some (pG b G), some (.int x), some (.int y), some (oL C), none, none, none] [] := by rw [sAsg_run, q1]; rfl
  have a2 : sAsg pq2 (gNm 4) [some (pG b G), some (.int x), some (.int y), some (oL C), none, none, none] [] = .nx [some (pG b G), some (.int x), some (.int y), some (oL C), some (oL N2), none, none] [] := by rw [sAsg_run, q2]; rfl
  exact callP_ok (μ' := []) (body_ret (δ := [some (pG b G), some (.int x), some (.int y), none, none, none, none]) rfl ((congrFun (congrFun pr_f _) _).trans <| (seq_nx a1).trans <| (seq_nx a2).trans <| (seq_nx (t3 _)).trans <| (seq_nx (t4 _)).trans <| (seq_nx (t5 _)).trans (t6 _))) (pG_ls3 rfl rfl) rfl
end
end K61
set_option Elab.async false
set_option linter.all false
set_option maxRecDepth 100000
namespace K61
open PySem PySem.Spec PyProof.Rows L2 Kw
theorem take_ok : TakeOk 2 f__law_take := by
  intro μ l m hb h0 h1
  obtain ⟨g, x, e⟩ := hb.two
  have hl : l < μ.length := (List.getElem?_eq_some_iff.mp e).1
  have i0 : gIx (.loc l) (.int 0) μ = some (.int g) := ixk (k := 0) e rfl
  have i1 : gIx (.loc l) (.int 1) μ = some (.int x) := ixk (k := 1) e rfl
  by_cases hp : 0 < g
  · have st : gSet (.loc l) (.int 0) (.int (g / m)) μ = some (μ.set l (.lst [.int (g / m), .int x])) := stk (k := 0) e (by simp)
    refine ⟨g % m, μ.set l (.lst [.int (g / m), .int x]), callM_ok (body_ret (δ := [some (.loc l), some (.int m), none, none]) rfl ?_) (by simp), Int.emod_nonneg _ (by omega), Int.emod_lt_of_pos _ h0, ⟨[g / m, x], rfl, List.getElem?_set_self hl⟩, .set l μ _⟩
    unfold m__law_take
    simp [eVar_run, i0, hp, gMod_int h0, gFdv_int h0 h1, st]
  · obtain ⟨r, hr⟩ : ∃ r : Int, r = (x * 40692 + 211) % 2147483399 := ⟨_, rfl⟩
    obtain ⟨y, hy⟩ : ∃ y : Int, y = (r * 40014 + 31) % 2147483587 + 1 := ⟨_, rfl⟩
    have e2 : (μ.set l (.lst [.int g, .int y]))[l]? = some (.lst [.int g, .int y]) := List.getElem?_set_self hl
    have st : gSet (.loc l) (.int 1) (.int y) μ = some (μ.set l (.lst [.int g, .int y])) := stk (k := 1) e (by simp)
    have i2 : gIx (.loc l) (.int 1) (μ.set l (.lst [.int g, .int y])) = some (.int y) := ixk (k := 1) e2 rfl
    refine ⟨(r * 2147483629 + y) / 8219 % m, μ.set l (.lst [.int g, .int y]), callM_ok (body_ret (δ := [some (.loc l), some (.int m), none, none]) rfl ?_) (by simp), Int.emod_nonneg _ (by omega), Int.emod_lt_of_pos _ h0, ⟨[g, y], rfl, e2⟩, .set l μ _⟩
    unfold m__law_take
    simp [eVar_run, i0, hp, i1, gMul_r, gMod_int, st, ← hr, ← hy, i2, gFdv_int, gMod_int h0]
theorem box_ok {ns : List Int} {k : Int} {μ : Mem} (h0 : 0 ≤ k) : ∃ g x : Int, callM f__law_box [.scr (ns.map D.int), .int k] μ = .ok (.loc μ.length) (μ ++ [.lst [.int g, .int x]]) := by
  suffices h : ∃ c : Int, f__law_box [.scr (ns.map D.int), .int k] μ = .ok (.loc μ.length) (μ ++ [.lst [.int (if 1000000000000000000 ≤ c then c else 0), .int ((c % 2147483587 * 69621 + 601 * k) % 2147483587 + 1)]]) by
    obtain ⟨c, h⟩ := h
    exact ⟨_, _, callM_new h (Nat.le_refl _)⟩
  have two : ∀ a b : D, gNewL [a, b] μ = some (.loc μ.length, μ ++ [.lst [a, b]]) := fun a b => rfl
  by_cases h1 : k < ns.length
  · obtain ⟨z, hz⟩ := ix_scr (ns := ns) (μ := μ) h0 h1
    refine ⟨if z < 0 then -z else z, body_ret (δ := [some (.scr (ns.map D.int)), some (.int k), none, none]) rfl ?_⟩
    generalize hc : (if z < 0 then -z else z) = c
    unfold m__law_box
    by_cases hq : 1000000000000000000 ≤ c <;> simp [eVar_run, gMul_r, gMul_l, len_scr, h1, hz, hc, pow18, gMod_int, two, hq]
  · by_cases h2 : 0 < ns.length
    · have hk := Int.emod_nonneg k (b := (ns.length : Int)) (by omega)
      have hk2 := Int.emod_lt_of_pos k (b := (ns.length : Int)) (by omega)
      obtain ⟨z, hz⟩ := ix_scr (ns := ns) (μ := μ) hk hk2
      refine ⟨8069 * k + 601 + (if z < 0 then -z else z) % 2147483587 * 50231, body_ret (δ := [some (.scr (ns.map D.int)), some (.int k), none, none]) rfl ?_⟩
      have hl2 : (0 : Int) < ns.length := by omega
      have hm := gMod_int (i := k) (μ := μ) hl2
      generalize hc : (if z < 0 then -z else z) = c at *
      unfold m__law_box
      by_cases hq : 1000000000000000000 ≤ 8069 * k + 601 + c % 2147483587 * 50231 <;> simp [eVar_run, gMul_r, gMul_l, len_scr, h1, h2, hm, hz, hc, pow18, gMod_int, two, hq]
    · refine ⟨8069 * k + 601, body_ret (δ := [some (.scr (ns.map D.int)), some (.int k), none, none]) rfl ?_⟩
      unfold m__law_box
      by_cases hq : 1000000000000000000 ≤ 8069 * k + 601 <;> simp [eVar_run, gMul_r, gMul_l, len_scr, h1, h2, pow18, gMod_int, two, hq]
theorem box_bx {ns : List Int} {k : Int} {μ : Mem} (h0 : 0 ≤ k) : ∃ μ', callM f__law_box [.scr (ns.map D.int), .int k] μ = .ok (.loc μ.length) μ' ∧ Bxn 2 μ' μ.length ∧ Kp μ.length μ μ' := by
  obtain ⟨g, x, h⟩ := box_ok (ns := ns) (μ := μ) h0
  exact ⟨_, h, ⟨[g, x], rfl, by simp⟩, Kp.app _ μ _⟩
theorem pickL {μ : Mem} {l : Nat} {xs : List D} (hb : Bxn 2 μ l) (h0 : xs ≠ []) (h1 : xs.length < 1073741824) : ∃ y μ', callM f__law_pick [.loc l, .lst xs] μ = .ok y μ' ∧ y ∈ xs ∧ Bxn 2 μ' l ∧ Stay l μ μ' := pick_lst take_ok hb h0 h1
end K61
set_option Elab.async false
set_option linter.all false
set_option maxRecDepth 100000
namespace K61
open PySem PySem.Spec PyProof.Rows L2 Kw El
/-- each once, as it comes first -/
def onc (pre xs : List Int) (k : Nat) : List Int := ((xs.zipIdx k).filter fun p => !((pre ++ xs).take p.2).contains p.1).map (·.1)
theorem onc_spec : ∀ (xs pre : List Int), (∀ z ∈ onc pre xs pre.length, z ∈ xs ∧ z ∉ pre) ∧ (onc pre xs pre.length).Nodup ∧ (onc pre xs pre.length).length ≤ xs.length
  | [], pre => ⟨fun z hz => by simp [onc] at hz, by simp [onc], by simp [onc]⟩
  | x :: xs, pre => by
    have ih := onc_spec xs (pre ++ [x])
    have e : onc (pre ++ [x]) xs (pre ++ [x]).length = ((xs.zipIdx (pre.length + 1)).filter fun p => !((pre ++ x :: xs).take p.2).contains p.1).map (·.1) := by
      unfold onc
      rw [List.length_append, List.length_singleton, List.append_assoc, List.singleton_append]
    have t : onc pre (x :: xs) pre.length = if x ∈ pre then onc (pre ++ [x]) xs (pre ++ [x]).length else x :: onc (pre ++ [x]) xs (pre ++ [x]).length := by
      rw [e]
      unfold onc
      rw [List.zipIdx_cons, List.filter_cons]
      have c : (!((pre ++ x :: xs).take pre.length).contains x) = !decide (x ∈ pre) := by
        rw [List.take_left']
        · simp
        · rfl
      simp only [c]
      by_cases h : x ∈ pre
      · simp [h]
      · simp [h]
    rw [t]
    obtain ⟨i1, i2, i3⟩ := ih
    split
    · next h =>
      refine ⟨fun z hz => ?_, i2, ?_⟩
      · obtain ⟨a, b⟩ := i1 z hz
        exact ⟨.tail _ a, fun q => b (List.mem_append_left _ q)⟩
      · rw [List.length_cons]; omega
    · next h =>
      refine ⟨fun z hz => ?_, ?_, ?_⟩
      · rcases List.mem_cons.mp hz with rfl | hz
        · exact ⟨.head _, h⟩
        · obtain ⟨a, b⟩ := i1 z hz
          exact ⟨.tail _ a, fun q => b (List.mem_append_left _ q)⟩
      · rw [List.nodup_cons]
        exact ⟨fun q => (i1 x q).2 (by simp), i2⟩
      · rw [List.length_cons, List.length_cons]; omega
/-- a web that grows -/
structure Wg (G : Lk) : Prop where
  nd : (keysG G).Nodup
  ln : ∀ p ∈ G, p.2.length ≤ 12 ∧ p.2.Nodup
  up : ∀ p ∈ G, ∀ y ∈ p.2, y ∈ keysG G ∧ rk G y < rk G p.1
  rng : ∀ z ∈ keysG G, 0 ≤ z ∧ z < 900
theorem Wg.web {G : Lk} (h : Wg G) (few : G.length ≤ 12) : Web G := ⟨h.nd, few, h.ln, h.up⟩
theorem Wg.nil : Wg [] := ⟨by simp [keysG], (fun p h => nomatch h), (fun p h => nomatch h), (fun z h => nomatch h)⟩
theorem keysG_app (G : Lk) (x : Int) (zs : List Int) : keysG (G ++ [(x, zs)]) = keysG G ++ [x] := by unfold keysG; rw [List.map_append]; rfl
theorem Wg.add {G : Lk} (h : Wg G) {x : Int} {zs : List Int} (hx : x ∉ keysG G) (hr : 0 ≤ x ∧ x < 900) (nd : zs.Nodup) (hl : zs.length ≤ 12) (hz : ∀ z ∈ zs, z ∈ keysG G) : Wg (G ++ [(x, zs)]) := by
  have ro : ∀ y ∈ keysG G, rk (G ++ [(x, zs)]) y = rk G y := fun y hy => by
    unfold rk
    rw [keysG_app, List.idxOf_append, if_pos hy]
  have rx : rk (G ++ [(x, zs)]) x = G.length := by
    unfold rk
    rw [keysG_app, List.idxOf_append, if_neg hx]
    simp [keysG]
  refine ⟨?_, fun p hp => ?_, fun p hp y hy => ?_, fun z hz => ?_⟩
  · rw [keysG_app, List.nodup_append]
    refine ⟨h.nd, by simp, fun a ha b hb e => ?_⟩
    rw [List.mem_singleton] at hb
    exact hx (hb ▸ e ▸ ha)
  · rcases List.mem_append.mp hp with q | q
    · exact h.ln p q
    · rw [List.mem_singleton.mp q]; exact ⟨hl, nd⟩
  · rw [keysG_app]
    rcases List.mem_append.mp hp with q | q
    · obtain ⟨a, b⟩ := h.up p q y hy
      refine ⟨List.mem_append_left _ a, ?_⟩
      rw [ro y a, ro p.1 (List.mem_map.mpr ⟨p, q, rfl⟩)]
      exact b
    · rw [List.mem_singleton.mp q] at hy ⊢
      have a := hz y hy
      refine ⟨List.mem_append_left _ a, ?_⟩
      show rk (G ++ [(x, zs)]) y < rk (G ++ [(x, zs)]) x
      rw [ro y a, rx]
      exact rk_lt a
  · rw [keysG_app] at hz
    rcases List.mem_append.mp hz with q | q
    · exact h.rng z q
    · rw [List.mem_singleton.mp q]; exact hr
def wdc : TM := (tBl (e2 gNe (eVar 1) (eAs gLstD aNil)))
def wd1 : SM := (sAsg (eSl (eVar 1) (oSome (eAs gMax2 (aCons (eC (.int 0)) (aCons (e2 Kw.gSub (eAs gLen (aCons (eVar 1) aNil)) (eC (.int 4))) aNil)))) oNo) (gNm 7))
def wdp : EM := (eIfM (tBl (e2 gGt (eCallM f__law_take (aCons (eVar 0) (aCons (eC (.int 3)) aNil))) (eC (.int 0)))) (eCallM f__law_pick (aCons (eVar 0) (aCons (eVar 7) aNil))) (eCallM f__law_pick (aCons (eVar 0) (aCons (eVar 1) aNil))))
def wd2 : SM := (sDrop (eMtL gAppend (eVar 5) (aCons wdp aNil)))
def wd : SM := sIf wdc (sSeq wd1 wd2) sNext
structure Wn (n l : Nat) (G : Lk) (μ0 μ : Mem) : Prop where
  bx : Bxn 2 μ l
  ln : μ[n]? = some (.lst ((keysG G).map D.int))
  dn : μ[n + 1]? = some (.dct (dE oT G))
  kp : Kp l μ0 μ
  n0 : n = μ0.length
  lt : l < n
abbrev slw (n l : Nat) (o3 o4 o5 o6 o7 o8 o9 : Option D) : Sv := [some (.loc l), some (.loc n), some (.loc (n + 1)), o3, o4, o5, o6, o7, o8, o9]
section
variable {n l s : Nat} {G : Lk} {μ0 μ : Mem} {o3 o4 o6 o7 o8 o9 : Option D}
theorem Wn.stay (h : Wn n l G μ0 μ) {μ' : Mem} (st : Stay l μ μ') (hb : Bxn 2 μ' l) : Wn n l G μ0 μ' := by
  have lt := h.lt
  exact ⟨hb, (st.2 n (by omega)).trans h.ln, (st.2 (n + 1) (by omega)).trans h.dn, h.kp.trans (.of st), h.n0, h.lt⟩
theorem pick_here {xs : List Int} {x : D} (hs : ∀ μ', Stay l μ μ' → seqOf μ' x = some (xs.map D.int)) (hv : ∀ μ, vOf (some (some x)) μ = .ok x μ) (hn : ∀ μ', Stay l μ μ' → gLen [x] μ' = some (.int (xs.map D.int).length)) (hb : Bxn 2 μ l) (h0 : xs ≠ []) (h1 : xs.length ≤ 1000) : ∃ (y : Int) (μ' : Mem), callM f__law_pick [.loc l, x] μ = .ok (.int y) μ' ∧ y ∈ xs ∧ Bxn 2 μ' l ∧ Stay l μ μ' := by
  obtain ⟨y, μ', e, hy, hb', st⟩ := pick_ok (take := f__law_take) take_ok hs hv hn hb (by simpa using h0) (by rw [List.length_map]; omega)
  obtain ⟨z, hz, rfl⟩ := List.mem_map.mp hy
  exact ⟨z, μ', e, hz, hb', st⟩
theorem wd_run (h : Wn n l G μ0 μ) (hK : (keysG G).length ≤ 12) {ys : List Int} (hs : μ[s]? = some (.lst (ys.map D.int))) (hsn : n + 2 ≤ s) (hy : ∀ y ∈ ys, y ∈ keysG G) (hl : ys.length ≤ 100) : ∃ (ys' : List Int) (p7 : Option D) (μ' : Mem), wd (slw n l o3 o4 (some (.loc s)) o6 o7 o8 o9) μ = .nx (slw n l o3 o4 (some (.loc s)) o6 p7 o8 o9) μ' ∧ Wn n l G μ0 μ' ∧ μ'[s]? = some (.lst (ys'.map D.int)) ∧ (∀ y ∈ ys', y ∈ keysG G) ∧ ys'.length ≤ ys.length + 1 := by
  have lt := h.lt
  have ne := gNe_loc (b := []) h.ln
  have gn : ∀ μ, gLstD [] μ = some (oL []) := fun _ => rfl
  have hc : wdc (slw n l o3 o4 (some (.loc s)) o6 o7 o8 o9) μ = .ok (!((keysG G) == [])) μ := by
    unfold wdc
    generalize (!((keysG G) == [])) = c at *
    generalize oL [] = t at *
    simp [eVar_run, gn, ne]
  by_cases hk : keysG G = []
  · refine ⟨ys, o7, μ, ?_, h, hs, hy, by omega⟩
    unfold wd
    rw [sIf_run, hc, hk]; rfl
  · have ck : (!((keysG G) == [])) = true := by simpa using hk
    have l0 : gLen [.loc n] μ = some (.int ((keysG G).length : Int)) := by simp [gLen, h.ln]
    obtain ⟨j, hj⟩ : ∃ j : Nat, (if ((keysG G).length : Int) - 4 > 0 then ((keysG G).length : Int) - 4 else 0) = (j : Int) ∧ j < (keysG G).length := by
      have : 0 < (keysG G).length := List.length_pos_iff.mpr hk
      by_cases c : ((keysG G).length : Int) - 4 > 0
      · exact ⟨(keysG G).length - 4, by rw [if_pos c]; omega, by omega⟩
      · exact ⟨0, by rw [if_neg c]; rfl, this⟩
    have mx : gMax2 [.int 0, .int (((keysG G).length : Int) - 4)] μ = some (.int (j : Int)) := by
      show some (D.int _) = _
      rw [hj.1]
    have sl : gSl (.loc n) (some (j : Int)) none μ = some (oL ((keysG G).drop j)) := by
      have lo : lstOf μ (.loc n) = some ((keysG G).map D.int) := by simp [lstOf, h.ln]
      show (match lstOf μ (.loc n) with
        | some xs => some (D.lst (Kw.cutD xs (some (j : Int)) none))
        | none => none) = _
      rw [lo]
      show some (D.lst (Kw.cutD ((keysG G).map D.int) (some (j : Int)) none)) = _
      congr 2
      unfold Kw.cutD HT.sIx
      have e : ¬ (j : Int) < 0 := by omega
      simp only [List.length_map, e, if_false, Int.toNat_natCast]
      rw [← List.map_drop, ← List.map_take, Nat.min_eq_left (by omega), List.take_of_length_le (by simp)]
    have s1 : wd1 (slw n l o3 o4 (some (.loc s)) o6 o7 o8 o9) μ = .nx (slw n l o3 o4 (some (.loc s)) o6 (some (oL ((keysG G).drop j))) o8 o9) μ := by
      unfold wd1
      generalize oL ((keysG G).drop j) = t at *
      simp [eVar_run, eSl, oSome, oNo, l0, mx, sl]
    obtain ⟨r, μ1, te, r0, r1, hb1, st1⟩ := take_ok h.bx (m := 3) (by decide) (by decide)
    have h1 := h.stay st1 hb1
    obtain ⟨y, μ2, te2, hy2, hb2, st2⟩ : ∃ (y : Int) (μ2 : Mem), wdp (slw n l o3 o4 (some (.loc s)) o6 (some (oL ((keysG G).drop j))) o8 o9) μ = .ok (.int y) μ2 ∧ y ∈ keysG G ∧ Bxn 2 μ2 l ∧ Stay l μ μ2 := by
      by_cases c : 0 < r
      · have dn : (keysG G).drop j ≠ [] := by
          intro q
          have := congrArg List.length q
          rw [List.length_drop, List.length_nil] at this
          omega
        obtain ⟨y, μ2, e2, hy2, hb2, st2⟩ := pick_here (x := oL ((keysG G).drop j)) (xs := (keysG G).drop j) (fun _ _ => rfl) (oL_v _) (fun _ _ => rfl) hb1 dn (by rw [List.length_drop]; omega)
        refine ⟨y, μ2, ?_, List.mem_of_mem_drop hy2, hb2, st1.trans st2⟩
        have v := oL_v ((keysG G).drop j)
        unfold wdp
        generalize oL ((keysG G).drop j) = t at *
        simp [eVar_run, te, c, v, e2]
      · obtain ⟨y, μ2, e2, hy2, hb2, st2⟩ := pick_here (x := .loc n) (xs := keysG G) (μ := μ1) (fun μ' st => by
          have := (st.2 n (by omega)).trans h1.ln
          simp [seqOf, lstOf, this]) (fun _ => rfl) (fun μ' st => by
          have := (st.2 n (by omega)).trans h1.ln
          simp [gLen, this]) hb1 hk (by omega)
        refine ⟨y, μ2, ?_, hy2, hb2, st1.trans st2⟩
        unfold wdp
        generalize oL ((keysG G).drop j) = t at *
        simp [eVar_run, te, c, e2]
    have h2 := h.stay st2 hb2
    have hs2 := (st2.2 s (by omega)).trans hs
    have slt : s < μ2.length := (List.getElem?_eq_some_iff.mp hs2).1
    have ap := mtL_app (ma := aCons wdp aNil) (mo := eVar 5) (δ := slw n l o3 o4 (some (.loc s)) o6 (some (oL ((keysG G).drop j))) o8 o9) (μ := μ) (μ2 := μ2) (y := .int y) rfl hs (by
      generalize wdp = m at *
      rw [aCons_run, te2]; rfl) hs2 (by rw [List.length_map]; omega)
    refine ⟨ys ++ [y], some (oL ((keysG G).drop j)), μ2.set s (.lst (ys.map D.int ++ [.int y])), ?_, ⟨h2.bx.set (by omega), ?_, ?_, h2.kp.set (by have := h.n0; omega), h.n0, h.lt⟩, ?_, fun z hz => ?_, by simp⟩
    · unfold wd
      rw [sIf_run, hc, ck, bindS_ok, if_pos rfl, seq_nx s1]
      unfold wd2
      rw [sDrop_run, ap]; rfl
    · rw [List.getElem?_set_ne (by omega)]; exact h2.ln
    · rw [List.getElem?_set_ne (by omega)]; exact h2.dn
    · rw [List.getElem?_set_self slt, List.map_append]; rfl
    · rcases List.mem_append.mp hz with q | q
      · exact hy z q
      · rw [List.mem_singleton.mp q]; exact hy2
theorem wd_loop : ∀ (ds : List D) (μ : Mem) (ys : List Int) (o6 o7 : Option D), Wn n l G μ0 μ → (keysG G).length ≤ 12 → μ[s]? = some (.lst (ys.map D.int)) → n + 2 ≤ s → (∀ y ∈ ys, y ∈ keysG G) → ys.length + ds.length ≤ 12 →
    ∃ (ys' : List Int) (p6 p7 : Option D) (μ' : Mem), loopS (gNm 6) wd ds (slw n l o3 o4 (some (.loc s)) o6 o7 o8 o9) μ = .nx (slw n l o3 o4 (some (.loc s)) p6 p7 o8 o9) μ' ∧ Wn n l G μ0 μ' ∧ μ'[s]? = some (.lst (ys'.map D.int)) ∧ (∀ y ∈ ys', y ∈ keysG G) ∧ ys'.length ≤ 12
  | [], μ, ys, o6, o7, h, hK, hs, hsn, hy, hl => ⟨ys, o6, o7, μ, rfl, h, hs, hy, by simpa using hl⟩
  | d :: ds, μ, ys, o6, o7, h, hK, hs, hsn, hy, hl => by
    rw [List.length_cons] at hl
    obtain ⟨ys1, p7, μ1, t, h1, hs1, hy1, hl1⟩ := wd_run (o3 := o3) (o4 := o4) (o6 := some d) (o7 := o7) (o8 := o8) (o9 := o9) h hK hs hsn hy (by omega)
    obtain ⟨ys', q6, q7, μ', e, r⟩ := wd_loop ds μ1 ys1 (some d) p7 h1 hK hs1 hsn hy1 (by omega)
    exact ⟨ys', q6, q7, μ', (loopS_nx (show gNm 6 d (slw n l o3 o4 (some (.loc s)) o6 o7 o8 o9) μ = .nx (slw n l o3 o4 (some (.loc s)) (some d) o7 o8 o9) μ from rfl) t).trans e, r⟩
end
end K61
set_option Elab.async false
set_option linter.all false
set_option maxRecDepth 100000
namespace K61
open PySem PySem.Spec PyProof.Rows L2 Kw El
def ta : SM := (sAsg (eCallM f__law_take (aCons (eVar 0) (aCons (eC (.int 900)) aNil))) (gNm 4))
def tbx : SM := (sIf (tBl (e2 gInD (eVar 4) (eVar 2))) sCont sNext)
def tc : SM := (sAsg (eAsM gNewL aNil) (gNm 5))
def td : SM := (sFor (iRange1 (aCons (eCallM f__law_pick (aCons (eVar 0) (aCons (eAs gLstD (aCons (eC (.int 1)) (aCons (eC (.int 1)) (aCons (eC (.int 2)) (aCons (eC (.int 2)) (aCons (eC (.int 3)) (aCons (eC (.int 0)) aNil))))))) aNil))) aNil)) (gNm 6) wd)
def tee : EM := (eLcN false (nEnu (aCons (eVar 5) aNil)) (gSeq 2 (gsCons (gNm 8) (gsCons (gNm 9) gsNil))) (tBl (e2 gNin (eVar 9) (eSl (eVar 5) oNo (oSome (eVar 8))))) (eVar 9) [8, 9])
def te : SM := (sAsg (eAs gTuple (aCons tee aNil)) (gSubMD (eVar 2) (eVar 4)))
def tf : SM := (sDrop (eMtL gAppend (eVar 1) (aCons (eVar 4) aNil)))
def tb : SM := sSeq ta (sSeq tbx (sSeq tc (sSeq td (sSeq te tf))))
theorem web_f : m__law_web = sSeq (sPar 1 2 (aCons (eAsM gNewL aNil) (aCons eNewD aNil))) (sSeq (sFor (iRange1 (aCons (e2 gAdd (eC (.int 1)) (eCallM f__law_take (aCons (eVar 0) (aCons (eC (.int 12)) aNil)))) aNil)) (gNm 3) tb) (sRet (eAs gTupD (aCons (eVar 1) (aCons (eVar 2) aNil))))) := rfl
section
variable {n l s : Nat} {G : Lk} {μ0 μ : Mem} {o3 o4 o5 o6 o7 o8 o9 : Option D}
theorem tee_run {ys : List Int} (hs : μ[s]? = some (.lst (ys.map D.int))) (hl : ys.length ≤ 1000) : tee (slw n l o3 o4 (some (.loc s)) o6 o7 o8 o9) μ = .ok (oL (onc [] ys 0)) μ := by
  have hlc := lcN_map (e := fun k (a : Int) => D.tup [.int ((k : Nat) : Int), .int a]) (nx := nxEnu s) (g := gSeq 2 (gsCons (gNm 8) (gsCons (gNm 9) gsNil))) (mt := (tBl (e2 gNin (eVar 9) (eSl (eVar 5) oNo (oSome (eVar 8)))))) (me := eVar 9) (δ := slw n l o3 o4 (some (.loc s)) o6 o7 none none) (μ := μ) (t := fun k a => !(ys.take k).contains a) (f := fun _ a => D.int a) (n := ys.length) (by simp [nxEnu, hs]) ys 0 (ys.length + 1) (by omega) (by omega) (fun k a ha => by
    have hk := (List.getElem?_eq_some_iff.mp ha).1
    refine ⟨by simp [nxEnu, hs, ha]; omega, slw n l o3 o4 (some (.loc s)) o6 o7 (some (.int ((0 + k : Nat) : Int))) (some (.int a)), rfl, ?_, fun _ => rfl⟩
    have sl : gSl (.loc s) none (some ((0 + k : Nat) : Int)) μ = some (oL (ys.take (0 + k))) := by
      have lo : lstOf μ (.loc s) = some (ys.map D.int) := by simp [lstOf, hs]
      show (match lstOf μ (.loc s) with
        | some xs => some (D.lst (Kw.cutD xs none (some ((0 + k : Nat) : Int))))
        | none => none) = _
      rw [lo]
      show some (D.lst (Kw.cutD (ys.map D.int) none (some ((0 + k : Nat) : Int)))) = _
      congr 2
      unfold Kw.cutD HT.sIx
      have e : ¬ ((0 + k : Nat) : Int) < 0 := by omega
      simp only [List.length_map, e, if_false, List.drop_zero, Nat.sub_zero, Int.toNat_natCast]
      rw [← List.map_take, Nat.min_eq_left (by omega)]
    have ni := nin_ints a (ys.take (0 + k)) μ
    show tBl (e2 gNin (eVar 9) (eSl (eVar 5) oNo (oSome (eVar 8)))) _ μ = .ok (!(ys.take (0 + k)).contains a) μ
    generalize (!(ys.take (0 + k)).contains a) = c at *
    have ni : gNin (.int a) (oL (ys.take (0 + k))) μ = some (.bl c) := ni
    generalize oL (ys.take (0 + k)) = t at *
    generalize ((0 + k : Nat) : Int) = z at *
    simp [eVar_run, eSl, oSome, oNo, sl, ni])
  have hn : nEnu (aCons (eVar 5) aNil) (slw n l o3 o4 (some (.loc s)) o6 o7 o8 o9) μ = .ok (nxEnu s, ys.length + 1) μ := by simp [nEnu, eVar_run, hs]
  have eo : ((ys.zipIdx 0).filter fun p => (fun k a => !(ys.take k).contains a) p.2 p.1).map (fun p => (fun _ a => D.int a) p.2 p.1) = (onc [] ys 0).map D.int := by
    unfold onc
    rw [List.map_map]; rfl
  rw [eo] at hlc
  have sz : ((onc [] ys 0).map D.int).length ≤ sizeLine := szN (by
    rw [List.length_map]
    have := (onc_spec ys []).2.2
    have this : (onc [] ys 0).length ≤ ys.length := this
    omega)
  unfold tee eLcN
  rw [hn]
  simp only [bind_ok]
  have hw : wipeD (slw n l o3 o4 (some (.loc s)) o6 o7 o8 o9) [8, 9] = slw n l o3 o4 (some (.loc s)) o6 o7 none none := rfl
  rw [hw, hlc]
  simp only
  rw [if_pos sz]
  rfl
theorem tb_run (h : Wn n l G μ0 μ) (w : Wg G) (hK : G.length < 12) : ∃ (G' : Lk) (p4 p5 p6 p7 : Option D) (μ' : Mem), (tb (slw n l o3 o4 o5 o6 o7 o8 o9) μ = .nx (slw n l o3 p4 p5 p6 p7 o8 o9) μ' ∨ tb (slw n l o3 o4 o5 o6 o7 o8 o9) μ = .ct (slw n l o3 p4 p5 p6 p7 o8 o9) μ') ∧ Wn n l G' μ0 μ' ∧ Wg G' ∧ G'.length ≤ G.length + 1 ∧ G' ≠ [] := by
  have lt := h.lt
  have kl : (keysG G).length = G.length := List.length_map _
  obtain ⟨r, μ1, e1, r0, r1, hb1, st1⟩ := take_ok h.bx (m := 900) (by decide) (by decide)
  have h1 := h.stay st1 hb1
  have s1 : ta (slw n l o3 o4 o5 o6 o7 o8 o9) μ = .nx (slw n l o3 (some (.int r)) o5 o6 o7 o8 o9) μ1 := by
    unfold ta
    simp [eVar_run, e1]
  have iD := inD_run (e := oT) (G := G) (k := r) (dctOf_loc h1.dn)
  by_cases c : r ∈ keysG G
  · refine ⟨G, some (.int r), o5, o6, o7, μ1, .inr ?_, h1, w, by omega, fun q => by rw [q] at c; cases c⟩
    have iD : gInD (.int r) (.loc (n + 1)) μ1 = some (.bl true) := by rw [iD]; exact congrArg (fun x => some (D.bl x)) (decide_eq_true c)
    unfold tb
    rw [seq_nx s1]
    have : tbx (slw n l o3 (some (.int r)) o5 o6 o7 o8 o9) μ1 = .ct (slw n l o3 (some (.int r)) o5 o6 o7 o8 o9) μ1 := by
      unfold tbx
      simp [eVar_run, iD]
    rw [sSeq_run, this]; rfl
  · have iD : gInD (.int r) (.loc (n + 1)) μ1 = some (.bl false) := by rw [iD]; exact congrArg (fun x => some (D.bl x)) (decide_eq_false c)
    have s2 : tbx (slw n l o3 (some (.int r)) o5 o6 o7 o8 o9) μ1 = .nx (slw n l o3 (some (.int r)) o5 o6 o7 o8 o9) μ1 := by
      unfold tbx
      simp [eVar_run, iD]
    have n1 : n + 1 < μ1.length := (List.getElem?_eq_some_iff.mp h1.dn).1
    have s3 : tc (slw n l o3 (some (.int r)) o5 o6 o7 o8 o9) μ1 = .nx (slw n l o3 (some (.int r)) (some (.loc μ1.length)) o6 o7 o8 o9) (μ1 ++ [.lst []]) := rfl
    have h3 : Wn n l G μ0 (μ1 ++ [.lst []]) := ⟨h1.bx.app, by rw [List.getElem?_append_left (by omega)]; exact h1.ln, by rw [List.getElem?_append_left n1]; exact h1.dn, h1.kp.trans (Kp.app _ _ _), h1.n0, h1.lt⟩
    obtain ⟨z, μ4, e4, hz, hb4, st4⟩ := pickL (μ := μ1 ++ [.lst []]) (xs := [D.int 1, .int 1, .int 2, .int 2, .int 3, .int 0]) h3.bx (by simp) (by decide)
    obtain ⟨m, rfl, hm⟩ : ∃ m : Nat, z = .int (m : Int) ∧ m ≤ 3 := by
      simp only [List.mem_cons, List.not_mem_nil, or_false] at hz
      rcases hz with rfl | rfl | rfl | rfl | rfl | rfl
      · exact ⟨1, rfl, by omega⟩
      · exact ⟨1, rfl, by omega⟩
      · exact ⟨2, rfl, by omega⟩
      · exact ⟨2, rfl, by omega⟩
      · exact ⟨3, rfl, by omega⟩
      · exact ⟨0, rfl, by omega⟩
    have h4 := h3.stay st4 hb4
    have hs4 : μ4[μ1.length]? = some (.lst (([] : List Int).map D.int)) := (st4.2 μ1.length (by omega)).trans (by simp)
    obtain ⟨ys, p6, p7, μ5, e5, h5, hs5, hy5, hl5⟩ := wd_loop (s := μ1.length) (o3 := o3) (o4 := some (.int r)) (o8 := o8) (o9 := o9) ((List.range m).map fun (k : Nat) => D.int (k : Int)) μ4 [] o6 o7 h4 (by omega) hs4 (by omega) (fun y hy => nomatch hy) (by simp; omega)
    have s4 : td (slw n l o3 (some (.int r)) (some (.loc μ1.length)) o6 o7 o8 o9) (μ1 ++ [.lst []]) = .nx (slw n l o3 (some (.int r)) (some (.loc μ1.length)) p6 p7 o8 o9) μ5 := by
      unfold td
      have gl : ∀ μ, gLstD [.int 1, .int 1, .int 2, .int 2, .int 3, .int 0] μ = some (.lst [.int 1, .int 1, .int 2, .int 2, .int 3, .int 0]) := fun _ => rfl
      rw [sFor_run, range1_run (n := m) (μ1 := μ4) (by
        generalize D.lst [.int 1, .int 1, .int 2, .int 2, .int 3, .int 0] = t at *
        simp [eVar_run, gl, e4]) (by omega), bindS_ok]
      exact e5
    have tE := tee_run (n := n) (l := l) (o3 := o3) (o4 := some (.int r)) (o6 := p6) (o7 := p7) (o8 := o8) (o9 := o9) hs5 (by omega)
    obtain ⟨q1, q2, q3⟩ := onc_spec ys []
    have q1 : ∀ z ∈ onc [] ys 0, z ∈ ys ∧ z ∉ ([] : List Int) := q1
    have q2 : (onc [] ys 0).Nodup := q2
    have q3 : (onc [] ys 0).length ≤ ys.length := q3
    have sd := setD_new (e := oT) (G := G) (k := r) (v := onc [] ys 0) h5.dn (lookup_none.mpr c) (by omega)
    have n5 : n + 1 < μ5.length := (List.getElem?_eq_some_iff.mp h5.dn).1
    have s5 : te (slw n l o3 (some (.int r)) (some (.loc μ1.length)) p6 p7 o8 o9) μ5 = .nx (slw n l o3 (some (.int r)) (some (.loc μ1.length)) p6 p7 o8 o9) (μ5.set (n + 1) (.dct (dE oT (G ++ [(r, onc [] ys 0)])))) := by
      have gt : ∀ μ, gTuple [oL (onc [] ys 0)] μ = some (oT (onc [] ys 0)) := fun _ => rfl
      unfold te
      generalize tee = m at *
      generalize oL (onc [] ys 0) = t1 at *
      generalize oT (onc [] ys 0) = t2 at *
      simp [eVar_run, tE, gt, sd]
    have ln6 : (μ5.set (n + 1) (.dct (dE oT (G ++ [(r, onc [] ys 0)]))))[n]? = some (.lst ((keysG G).map D.int)) := by rw [List.getElem?_set_ne (by omega)]; exact h5.ln
    have ap := mtL_app (ma := aCons (eVar 4) aNil) (mo := eVar 1) (δ := slw n l o3 (some (.int r)) (some (.loc μ1.length)) p6 p7 o8 o9) (y := .int r) rfl ln6 rfl ln6 (by rw [List.length_map]; omega)
    have s6 : tf (slw n l o3 (some (.int r)) (some (.loc μ1.length)) p6 p7 o8 o9) (μ5.set (n + 1) (.dct (dE oT (G ++ [(r, onc [] ys 0)])))) = .nx (slw n l o3 (some (.int r)) (some (.loc μ1.length)) p6 p7 o8 o9) ((μ5.set (n + 1) (.dct (dE oT (G ++ [(r, onc [] ys 0)])))).set n (.lst ((keysG G).map D.int ++ [.int r]))) := by
      unfold tf
      rw [sDrop_run, ap]; rfl
    refine ⟨G ++ [(r, onc [] ys 0)], some (.int r), some (.loc μ1.length), p6, p7, _, .inl ((seq_nx s1).trans <| (seq_nx s2).trans <| (seq_nx s3).trans <| (seq_nx s4).trans <| (seq_nx s5).trans s6), ⟨(h5.bx.set (by omega)).set (by omega), ?_, ?_, (h5.kp.set (by have := h.n0; omega)).set (by have := h.n0; omega), h.n0, h.lt⟩, w.add c ⟨r0, r1⟩ q2 (by omega) (fun z hz => hy5 z (q1 z hz).1), by simp, by simp⟩
    · rw [List.getElem?_set_self (by rw [List.length_set]; omega), keysG_app, List.map_append]; rfl
    · rw [List.getElem?_set_ne (by omega), List.getElem?_set_self n5]
theorem tb_loop : ∀ (ds : List D) (μ : Mem) (G : Lk) (o3 o4 o5 o6 o7 : Option D), Wn n l G μ0 μ → Wg G → G.length + ds.length ≤ 12 → (ds ≠ [] ∨ G ≠ []) → ∃ (G' : Lk) (p3 p4 p5 p6 p7 : Option D) (μ' : Mem), loopS (gNm 3) tb ds (slw n l o3 o4 o5 o6 o7 o8 o9) μ = .nx (slw n l p3 p4 p5 p6 p7 o8 o9) μ' ∧ Wn n l G' μ0 μ' ∧ Wg G' ∧ G'.length ≤ 12 ∧ G' ≠ []
  | [], μ, G, o3, o4, o5, o6, o7, h, w, hl, hne => ⟨G, o3, o4, o5, o6, o7, μ, rfl, h, w, by simpa using hl, hne.resolve_left fun q => q rfl⟩
  | d :: ds, μ, G, o3, o4, o5, o6, o7, h, w, hl, hne => by
    rw [List.length_cons] at hl
    obtain ⟨G1, p4, p5, p6, p7, μ1, t, h1, w1, hl1, ne1⟩ := tb_run (o3 := some d) (o4 := o4) (o5 := o5) (o6 := o6) (o7 := o7) (o8 := o8) (o9 := o9) h w (by omega)
    obtain ⟨G', q3, q4, q5, q6, q7, μ', e, r⟩ := tb_loop ds μ1 G1 (some d) p4 p5 p6 p7 h1 w1 (by omega) (.inr ne1)
    have g0 : gNm 3 d (slw n l o3 o4 o5 o6 o7 o8 o9) μ = .nx (slw n l (some d) o4 o5 o6 o7 o8 o9) μ := rfl
    refine ⟨G', q3, q4, q5, q6, q7, μ', ?_, r⟩
    rcases t with t | t
    · exact (loopS_nx g0 t).trans e
    · exact (loopS_ct g0 t).trans e
theorem callM_new2 {m : FM} {ds : List D} {μ μ' : Mem} {a b : Nat} (h : m ds μ = .ok (.tup [.loc a, .loc b]) μ') (hl : μ.length ≤ a) : callM m ds μ = .ok (.tup [.loc a, .loc b]) μ' := by
  unfold callM
  rw [h]
  simp only
  rw [if_neg]
  intro z
  rw [Bool.and_eq_true] at z
  have := z.1
  simp only [locB, locBs, Bool.and_eq_true, decide_eq_true_eq] at this
  omega
theorem web_run (hb : Bxn 2 μ l) : ∃ (G : Lk) (μ' : Mem), callM f__law_web [.loc l] μ = .ok (.tup [.loc μ.length, .loc (μ.length + 1)]) μ' ∧ Wn μ.length l G μ μ' ∧ Wg G ∧ G.length ≤ 12 ∧ G ≠ [] := by
  have lt := hb.lt
  have w0 : Wn μ.length l [] μ (μ ++ [Ob.lst []] ++ [Ob.dct []]) := ⟨hb.app.app, by simp [keysG], by simp [dE], (Kp.app _ _ _).trans (Kp.app _ _ _), rfl, lt⟩
  obtain ⟨r, μ1, e1, r1, hb1, st1⟩ := take_ok.nat w0.bx (m := 12) (by decide) (by decide)
  have h1 := w0.stay st1 hb1
  obtain ⟨G, p3, p4, p5, p6, p7, μ2, lp2, h2, w2, l2, n2⟩ := tb_loop (o8 := none) (o9 := none) ((List.range (1 + r)).map fun (k : Nat) => D.int (k : Int)) μ1 [] none none none none none h1 Wg.nil (by simp; omega) (.inl (by
    intro q
    have := congrArg List.length q
    simp at this))
  refine ⟨G, μ2, callM_new2 (body_ret (δ := [some (.loc l), none, none, none, none, none, none, none, none, none]) rfl ?_) (Nat.le_refl _), h2, w2, l2, n2⟩
  have s1 : sPar 1 2 (aCons (eAsM gNewL aNil) (aCons eNewD aNil)) [some (.loc l), none, none, none, none, none, none, none, none, none] μ = .nx (slw μ.length l none none none none none none none) (μ ++ [Ob.lst []] ++ [Ob.dct []]) := by
    rw [sPar_run]
    have : aCons (eAsM gNewL aNil) (aCons eNewD aNil) [some (.loc l), none, none, none, none, none, none, none, none, none] μ = .ok [.loc μ.length, .loc (μ ++ [Ob.lst []]).length] (μ ++ [Ob.lst []] ++ [Ob.dct []]) := rfl
    rw [this, bindS_ok]
    simp only [List.length_append, List.length_singleton]
    rfl
  have s2 : sFor (iRange1 (aCons (e2 gAdd (eC (.int 1)) (eCallM f__law_take (aCons (eVar 0) (aCons (eC (.int 12)) aNil)))) aNil)) (gNm 3) tb (slw μ.length l none none none none none none none) (μ ++ [Ob.lst []] ++ [Ob.dct []]) = .nx (slw μ.length l p3 p4 p5 p6 p7 none none) μ2 := by
    have e1 : callM f__law_take [.loc l, .int 12] (μ ++ [Ob.lst []] ++ [Ob.dct []]) = .ok (.int (r : Int)) μ1 := e1
    rw [sFor_run, range1_run (n := 1 + r) (μ1 := μ1) (by
      generalize (μ ++ [Ob.lst []] ++ [Ob.dct []] : Mem) = m at *
      simp [eVar_run, e1]) (by omega), bindS_ok]
    exact lp2
  exact ((congrFun (congrFun web_f _) _).trans <| (seq_nx s1).trans <| (seq_nx s2).trans rfl)
end
end K61
set_option Elab.async false
set_option linter.all false
set_option maxRecDepth 100000
namespace K61
open PySem PySem.Spec PyProof.Rows L2 Kw El
theorem callP_inv {m : FM} {es : List D} {d : D} {μ : Mem} (hd : locBs false 0 es = true) (h : callP m es μ = .ok d μ) : ∃ μ', m es [] = .ok d μ' := by
  unfold callP at h
  rw [if_pos hd] at h
  cases e : m es [] with
  | ok d' μ' =>
    rw [e] at h
    simp only at h
    split at h
    · cases h; exact ⟨μ', rfl⟩
    · cases h
  | exc x μ' =>
    rw [e] at h
    simp only at h
    split at h <;> cases h
  | stuck => rw [e] at h; cases h
theorem callP_invX {m : FM} {es : List D} {x : Xn} {μ : Mem} (hd : locBs false 0 es = true) (h : callP m es μ = .exc x μ) : ∃ μ', m es [] = .exc x μ' := by
  unfold callP at h
  rw [if_pos hd] at h
  cases e : m es [] with
  | ok d' μ' =>
    rw [e] at h
    simp only at h
    split at h <;> cases h
  | exc x' μ' =>
    rw [e] at h
    simp only at h
    split at h
    · cases h; exact ⟨μ', rfl⟩
    · cases h
  | stuck => rw [e] at h; cases h
/-- a name, or None -/
def flt1 : D → Bool
  | .int _ => true
  | .non => true
  | _ => false
theorem flt1_frz {d : D} (h : flt1 d = true) (f : Nat → Option D) : frzW f d = some d := by
  cases d <;> first | rfl | cases h
theorem flt1_loc {d : D} (h : flt1 d = true) (sc : Bool) (k : Nat) : locB sc k d = true := by
  cases d <;> first | rfl | cases h
section
variable {b : Bool} {G : Lk} {p : Nat} {μ : Mem} {m : FM} {d d2 r : D}
theorem frz_w (hd : μ[p]? = some (.dct (dE (sqI b) G))) : frzW (frzL μ 4) (.loc p) = some (pG b G) := frz_dct (n := 3) hd fun f v => by
  cases b
  · exact frz_oL f v
  · exact frz_oT f v
theorem lent1 (hd : μ[p]? = some (.dct (dE (sqI b) G))) (hr : locB true 0 r = true) (h1 : flt1 d = true) (h : ∀ μ, callP m [pG b G, d] μ = .ok r μ) : callP m [.loc p, d] μ = .ok r μ := by
  obtain ⟨μ', e⟩ := callP_inv (pG_ls (flt1_loc h1 false 0)) (h [])
  refine callP_lent rfl ?_ e hr
  simp only [frzWs, frz_w hd, flt1_frz h1]
theorem lent2 (hd : μ[p]? = some (.dct (dE (sqI b) G))) (hr : locB true 0 r = true) (h1 : flt1 d = true) (h2 : flt1 d2 = true) (h : ∀ μ, callP m [pG b G, d, d2] μ = .ok r μ) : callP m [.loc p, d, d2] μ = .ok r μ := by
  obtain ⟨μ', e⟩ := callP_inv (pG_ls3 (flt1_loc h1 false 0) (flt1_loc h2 false 0)) (h [])
  refine callP_lent rfl ?_ e hr
  simp only [frzWs, frz_w hd, flt1_frz h1, flt1_frz h2]
theorem lent1X {x : Xn} (hd : μ[p]? = some (.dct (dE (sqI b) G))) (hr : locBs true 0 (x.fs.map (·.2)) = true) (h1 : flt1 d = true) (h : ∀ μ, callP m [pG b G, d] μ = .exc x μ) : callP m [.loc p, d] μ = .exc x μ := by
  obtain ⟨μ', e⟩ := callP_invX (pG_ls (flt1_loc h1 false 0)) (h [])
  refine callP_lentX rfl ?_ e hr
  simp only [frzWs, frz_w hd, flt1_frz h1]
theorem lent2X {x : Xn} (hd : μ[p]? = some (.dct (dE (sqI b) G))) (hr : locBs true 0 (x.fs.map (·.2)) = true) (h1 : flt1 d = true) (h2 : flt1 d2 = true) (h : ∀ μ, callP m [pG b G, d, d2] μ = .exc x μ) : callP m [.loc p, d, d2] μ = .exc x μ := by
  obtain ⟨μ', e⟩ := callP_invX (pG_ls3 (flt1_loc h1 false 0) (flt1_loc h2 false 0)) (h [])
  refine callP_lentX rfl ?_ e hr
  simp only [frzWs, frz_w hd, flt1_frz h1, flt1_frz h2]
end
structure Ct (G : Lk) (l p h : Nat) (μ : Mem) : Prop where
  bx : Bxn 2 μ l
  pd : μ[p]? = some (.dct (dE (sqI true) G))
  hd : μ[h]? = some (.dct (dE (sqI false) G))
  lp : p ≠ l
  lh : h ≠ l
theorem Ct.stay {G : Lk} {l p h : Nat} {μ μ' : Mem} (c : Ct G l p h μ) (st : Stay l μ μ') (hb : Bxn 2 μ' l) : Ct G l p h μ' := ⟨hb, (st.2 p c.lp).trans c.pd, (st.2 h c.lh).trans c.hd, c.lp, c.lh⟩
def v1s : SM := (sPar 8 9 (aCons (eCallM f__law_pick (aCons (eVar 2) (aCons (eVar 3) aNil))) (aCons (eCallM f__law_pick (aCons (eVar 2) (aCons (eVar 3) aNil))) aNil)))
def v2s : SM := (sIf (tOrM (tBl (e2 gNe (eAs gRepr (aCons (eCallP f_elders (aCons (eVar 5) (aCons (eVar 8) aNil))) aNil)) (eAs gRepr (aCons (eAs gTuple (aCons (eCallP f__law_elders (aCons (eVar 4) (aCons (eVar 8) aNil))) aNil)) aNil)))) (tBl (e2 gNe (eCallK0 f_elders [1, 0] (aCons (eVar 9) (aCons (eVar 4) aNil))) (eAs gTuple (aCons (eCallP f__law_elders (aCons (eVar 4) (aCons (eVar 9) aNil))) aNil))))) (sRet (eC (.bl false))) sNext)
def v3s : SM := (sIf (tNotM (tTru (eCallP f__law_pair_right (aCons (eVar 4) (aCons (eVar 8) (aCons (eVar 9) aNil)))))) (sRet (eC (.bl false))) sNext)
def v4s : SM := (sAsg (eCallP f__law_ways (aCons (eVar 4) (aCons (eVar 8) (aCons (eVar 9) aNil)))) (gNm 10))
def v5l : EM := (eLc (iSeq (eVar 10)) (gNm 15) tYesM (eAs gLen (aCons (eVar 15) aNil)) [15])
def v5m : EM := (eLc (iSeq (eVar 10)) (gNm 14) (tBl (e2 gEq (eAs gLen (aCons (eVar 14) aNil)) (eAs gMinL (aCons v5l aNil)))) (eVar 14) [14])
def v5e : EM := (eIfM (tBl (e2 gEq (eVar 10) (eAs gLstD aNil))) (eC .non) (eAs gMinT (aCons v5m aNil)))
def v5s : SM := (sAsg v5e (gNm 11))
def v6s : SM := (sIf (tBl (e2 gNe (eAs gRepr (aCons (eAs gLstD (aCons (eCallP f_way_up (aCons (eVar 5) (aCons (eVar 8) (aCons (eVar 9) aNil)))) (aCons (eCallK0 f_way_up [2, 1, 0] (aCons (eVar 9) (aCons (eVar 8) (aCons (eVar 4) aNil)))) aNil))) aNil)) (eAs gRepr (aCons (eAs gLstD (aCons (eVar 11) (aCons (eVar 11) aNil))) aNil)))) (sRet (eC (.bl false))) sNext)
theorem b2_f : m_law_b2 = sSeq v1s (sSeq v2s (sSeq v3s (sSeq v4s (sSeq v5s v6s)))) := rfl
abbrev slT (o0 o1 : Option D) (l : Nat) (K : List Int) (p h : Nat) (o6 o7 o8 o9 o10 o11 o12 o13 : Option D) : Sv := [o0, o1, some (.loc l), some (oL K), some (.loc p), some (.loc h), o6, o7, o8, o9, o10, o11, o12, o13, none, none]
section
variable {G : Lk} {l p h : Nat} {μ : Mem} {o0 o1 o6 o7 o8 o9 o10 o11 o12 o13 : Option D} {K : List Int} {x y : Int}
theorem loc_oT (xs : List Int) : locB true 0 (oT xs) = true := by show locBs true 0 _ = true; exact loc_ints _ _ _
theorem loc_oL (xs : List Int) : locB true 0 (oL xs) = true := by show locBs true 0 _ = true; exact loc_ints _ _ _
theorem v1_run (c : Ct G l p h μ) (hK : K ≠ []) (hl : K.length ≤ 12) : ∃ (x y : Int) (μ' : Mem), v1s (slT o0 o1 l K p h o6 o7 o8 o9 o10 o11 o12 o13) μ = .nx (slT o0 o1 l K p h o6 o7 (some (.int x)) (some (.int y)) o10 o11 o12 o13) μ' ∧ x ∈ K ∧ y ∈ K ∧ Ct G l p h μ' := by
  obtain ⟨x, μ1, te, hx, hb1, st1⟩ := pick_here (x := oL K) (xs := K) (μ := μ) (fun _ _ => rfl) (oL_v _) (fun _ _ => rfl) c.bx hK (by omega)
  have c1 := c.stay st1 hb1
  obtain ⟨y, μ2, te2, hy, hb2, st2⟩ := pick_here (x := oL K) (xs := K) (μ := μ1) (fun _ _ => rfl) (oL_v _) (fun _ _ => rfl) c1.bx hK (by omega)
  refine ⟨x, y, μ2, ?_, hx, hy, c1.stay st2 hb2⟩
  have v := oL_v K
  unfold v1s slT
  generalize oL K = t at *
  simp [eVar_run, v, te, te2]
theorem rep1 {C : List Int} (hC : ∀ z ∈ C, 0 ≤ z ∧ z < 900) (lC : C.length ≤ 12) : ∃ s, (∀ μ, gRepr [oT C] μ = some (.str s)) ∧ ∀ μ, gNe (.str s) (.str s) μ = some (.bl false) := by
  have sm : Sm 1 12 (oT C) := .tup (w := 0) (fun d hd => by
    obtain ⟨z, hz, rfl⟩ := List.mem_map.mp hd
    have := hC z hz
    exact .int (by omega)) (by rw [List.length_map]; omega)
  obtain ⟨s, h1, h2⟩ := sm.repr (by omega) (by omega)
  exact ⟨s, h2, str_nes h1⟩
theorem v2_run (c : Ct G l p h μ) (W : Web G) (hr : ∀ z ∈ keysG G, 0 ≤ z ∧ z < 900) (hx : x ∈ keysG G) (hy : y ∈ keysG G) : v2s (slT o0 o1 l K p h o6 o7 (some (.int x)) (some (.int y)) o10 o11 o12 o13) μ = .nx (slT o0 o1 l K p h o6 o7 (some (.int x)) (some (.int y)) o10 o11 o12 o13) μ := by
  obtain ⟨R, a1, e1⟩ := elders_run (b := false) W hx
  obtain ⟨R2, a2, te2⟩ := lawE_run (b := true) W hx
  obtain ⟨R3, a3, e3⟩ := elders_run (b := true) W hy
  obtain ⟨R4, a4, e4⟩ := lawE_run (b := true) W hy
  have q := a2.eq a1
  subst q
  have q := a4.eq a3
  subst q
  have c1 := lent1 (m := f_elders) (d := .int x) c.hd (loc_oT _) rfl e1
  have c2 := lent1 (m := f__law_elders) (d := .int x) c.pd (loc_oL _) rfl te2
  have c3 := lent1 (m := f_elders) (d := .int y) c.pd (loc_oT _) rfl e3
  have c4 := lent1 (m := f__law_elders) (d := .int y) c.pd (loc_oL _) rfl e4
  obtain ⟨s, r1, r2⟩ := rep1 (C := R2) (fun z hz => hr z (isE_sub W hx a1 z hz)) (isE_few W hx a1)
  have g1 : ∀ μ, gTuple [oL R2] μ = some (oT R2) := fun _ => rfl
  have g2 : ∀ μ, gTuple [oL R4] μ = some (oT R4) := fun _ => rfl
  have n2 : ∀ μ, gNe (oT R4) (oT R4) μ = some (.bl false) := fun μ => by rw [gNe_oT]; simp
  unfold v2s slT
  generalize oL R2 = t1 at *
  generalize oT R2 = t2 at *
  generalize oL R4 = t3 at *
  generalize oT R4 = t4 at *
  generalize oL K = t5 at *
  simp [eVar_run, c1, c2, c3, c4, r1, r2, g1, g2, n2, permL]
theorem v3_run (c : Ct G l p h μ) (W : Web G) (hr : ∀ z ∈ keysG G, 0 ≤ z ∧ z < 900) (hx : x ∈ keysG G) (hy : y ∈ keysG G) : v3s (slT o0 o1 l K p h o6 o7 (some (.int x)) (some (.int y)) o10 o11 o12 o13) μ = .nx (slT o0 o1 l K p h o6 o7 (some (.int x)) (some (.int y)) o10 o11 o12 o13) μ := by
  have c1 := lent2 (m := f__law_pair_right) (d := .int x) (d2 := .int y) c.pd rfl rfl rfl (pair_run W hr hx hy)
  unfold v3s slT
  generalize oL K = t5 at *
  simp [eVar_run, c1]
theorem loc_oWs (ws : List (List Int)) : locB true 0 (oWs ws) = true := by
  show locBs true 0 _ = true
  exact loc_map _ fun w _ => loc_oT w
theorem v4_run (c : Ct G l p h μ) (W : Web G) (hx : x ∈ keysG G) : v4s (slT o0 o1 l K p h o6 o7 (some (.int x)) (some (.int y)) o10 o11 o12 o13) μ = .nx (slT o0 o1 l K p h o6 o7 (some (.int x)) (some (.int y)) (some (oWs (wys G x y (G.length + 1)))) o11 o12 o13) μ := by
  have c1 := lent2 (m := f__law_ways) (d := .int x) (d2 := .int y) c.pd (loc_oWs _) rfl rfl (ways_run W hx)
  unfold v4s slT
  generalize oL K = t5 at *
  generalize oWs (wys G x y (G.length + 1)) = t6 at *
  simp [eVar_run, c1]
theorem wys_short (W : Web G) (hx : x ∈ keysG G) : ∀ w ∈ wys G x y (G.length + 1), w ≠ [] ∧ w.length ≤ 13 := fun w hw => by
  obtain ⟨r, rfl, hwr⟩ := (wys_all W hx w).mp hw
  have := (hwr.rank W hx).1
  have := rk_lt hx
  have := W.few
  exact ⟨by simp, by rw [List.length_cons]; omega⟩
theorem v5_run (W : Web G) (hx : x ∈ keysG G) (hy : y ∈ keysG G) : ∃ o, Best G x y o ∧ v5s (slT o0 o1 l K p h o6 o7 o8 o9 (some (oWs (wys G x y (G.length + 1)))) o11 o12 o13) μ = .nx (slT o0 o1 l K p h o6 o7 o8 o9 (some (oWs (wys G x y (G.length + 1)))) (some (oW o)) o12 o13) μ := by
  have few := W.few
  have wl := wys_len (e := y) W hx (G.length + 1) (by omega)
  have ws := wys_short (y := y) W hx
  have nb := none_best (e := y) W hx
  have lb := fun {k n nss} => @least_best G W x y hx k n nss
  generalize wys G x y (G.length + 1) = L at *
  have E2 : En 2 oWs (fun xs => PyData.list (xs.map fun ys => PyData.tuple (ys.map PyData.int))) := En.int.tup.lst
  have ge := fun μ => E2.gEq (μ := μ) (by omega) L []
  have gn : ∀ μ, gLstD [] μ = some (oWs []) := fun _ => rfl
  have vw : ∀ μ, vOf (some (some (oWs L))) μ = .ok (oWs L) μ := fun _ => rfl
  by_cases cL : L = []
  · refine ⟨none, nb cL, ?_⟩
    have ge : ∀ μ, gEq (oWs L) (oWs []) μ = some (.bl true) := fun μ => by rw [ge μ, decide_eq_true cL]
    show _ = SOut.nx (slT o0 o1 l K p h o6 o7 o8 o9 (some (oWs L)) (some .non) o12 o13) μ
    unfold v5s v5e slT
    generalize oWs L = t at *
    generalize oWs [] = t2 at *
    generalize oL K = t5 at *
    simp [eVar_run, vw, gn, ge]
  · have ge : ∀ μ, gEq (oWs L) (oWs []) μ = some (.bl false) := fun μ => by rw [ge μ, decide_eq_false cL]
    have ll : L.length ≤ 1000000 := by omega
    have e5l : ∀ (o14 : Option D) μ, v5l [o0, o1, some (.loc l), some (oL K), some (.loc p), some (.loc h), o6, o7, o8, o9, some (oWs L), o11, o12, o13, o14, none] μ = .ok (oL (L.map fun w => (w.length : Int))) μ := fun o14 μ => by
      have a := lcL_map (e := oT) (f := fun w => D.int (w.length : Int)) (i := 15) (δ := [o0, o1, some (.loc l), some (oL K), some (.loc p), some (.loc h), o6, o7, o8, o9, some (oWs L), o11, o12, o13, o14, none]) (me := eAs gLen (aCons (eVar 15) aNil)) (μ := μ) L fun w _ => by
        have gl : gLen [oT w] μ = some (.int (w.length : Int)) := by
          show some (D.int ((w.map D.int).length : Int)) = _
          rw [List.length_map]
        have v : ∀ μ, vOf (some (some (oT w))) μ = .ok (oT w) μ := fun _ => rfl
        show eAs gLen (aCons (eVar 15) aNil) [o0, o1, some (.loc l), some (oL K), some (.loc p), some (.loc h), o6, o7, o8, o9, some (oWs L), o11, o12, o13, o14, some (oT w)] μ = _
        generalize oT w = t at *
        generalize oWs L = t1 at *
        generalize oL K = t5 at *
        simp [eVar_run, v, gl]
      have em : (L.map fun w => D.int (w.length : Int)) = (L.map fun w => (w.length : Int)).map D.int := by rw [List.map_map]; rfl
      rw [em] at a
      unfold v5l
      rw [eLc_run, show iSeq (eVar 10) [o0, o1, some (.loc l), some (oL K), some (.loc p), some (.loc h), o6, o7, o8, o9, some (oWs L), o11, o12, o13, o14, none] μ = .ok (L.map oT) μ from rfl, bind_ok, show wipeD [o0, o1, some (.loc l), some (oL K), some (.loc p), some (.loc h), o6, o7, o8, o9, some (oWs L), o11, o12, o13, o14, none] [15] = [o0, o1, some (.loc l), some (oL K), some (.loc p), some (.loc h), o6, o7, o8, o9, some (oWs L), o11, o12, o13, o14, none] from rfl, a]
      simp only
      rw [if_pos (szN (by rw [List.length_map, List.length_map]; omega))]
    obtain ⟨w0, L', eL⟩ : ∃ w0 L', L = w0 :: L' := by
      cases L with
      | nil => exact absurd rfl cL
      | cons a b => exact ⟨a, b, rfl⟩
    obtain ⟨k, hk⟩ : ∃ k : Int, k = lowI (w0.length : Int) (L'.map fun w => (w.length : Int)) := ⟨_, rfl⟩
    obtain ⟨k1, k2⟩ := lowI_le (L'.map fun w => (w.length : Int)) (w0.length : Int)
    have k3 := lowI_mem (L'.map fun w => (w.length : Int)) (w0.length : Int)
    rw [← hk] at k1 k2 k3
    have km : ∃ w ∈ L, k = (w.length : Int) := by
      rw [eL]
      rcases List.mem_cons.mp k3 with q | q
      · exact ⟨w0, .head _, q⟩
      · obtain ⟨w, hw, q⟩ := List.mem_map.mp q
        exact ⟨w, .tail _ hw, q.symm⟩
    have kle : ∀ w ∈ L, k ≤ (w.length : Int) := fun w hw => by
      rw [eL] at hw
      rcases List.mem_cons.mp hw with rfl | hw
      · exact k1
      · exact k2 _ (List.mem_map.mpr ⟨w, hw, rfl⟩)
    obtain ⟨wm, hwm, ekm⟩ := km
    have mL : ∀ μ, gMinL [oL (L.map fun w => (w.length : Int))] μ = some (.int k) := fun μ => by
      rw [hk, eL]
      have : intsOf (((w0 :: L').map fun w => (w.length : Int)).map D.int) = some ((w0 :: L').map fun w => (w.length : Int)) := intsOf_map _
      show (match lstOf μ (oL ((w0 :: L').map fun w => (w.length : Int))) with
        | some xs => (match intsOf xs with
          | some (b :: bs) => some (D.int (lowI b bs))
          | _ => none)
        | none => none) = _
      show (match intsOf (((w0 :: L').map fun w => (w.length : Int)).map D.int) with
          | some (b :: bs) => some (D.int (lowI b bs))
          | _ => none) = _
      rw [this]
      rfl
    let T : List Int → Bool := fun w => decide (w.length = wm.length)
    have e5m : v5m (slT o0 o1 l K p h o6 o7 o8 o9 (some (oWs L)) o11 o12 o13) μ = .ok (oWs (L.filter T)) μ := by
      have lc : lcL (gNm 14) (tBl (e2 gEq (eAs gLen (aCons (eVar 14) aNil)) (eAs gMinL (aCons v5l aNil)))) (eVar 14) (slT o0 o1 l K p h o6 o7 o8 o9 (some (oWs L)) o11 o12 o13) (L.map oT) μ = .ok ((L.filter T).map oT) μ := by
        refine lcL_filt (e := oT) (t := T) (f := oT) L ?_
        intro w hw
        refine ⟨?_, fun _ => rfl⟩
        have gl : gLen [oT w] μ = some (.int (w.length : Int)) := by
          show some (D.int ((w.map D.int).length : Int)) = _
          rw [List.length_map]
        have v : ∀ μ, vOf (some (some (oT w))) μ = .ok (oT w) μ := fun _ => rfl
        have e5 := e5l (some (oT w)) μ
        have eT : T w = ((w.length : Int) == k) := by
          show decide (w.length = wm.length) = _
          rw [ekm, Kw.beq_dec]
          exact decide_eq_decide.mpr (by omega)
        rw [eT]
        show tBl _ [o0, o1, some (.loc l), some (oL K), some (.loc p), some (.loc h), o6, o7, o8, o9, some (oWs L), o11, o12, o13, some (oT w), none] μ = _
        generalize oT w = t at *
        generalize oL (L.map fun w => (w.length : Int)) = t6 at *
        generalize oWs L = t1 at *
        generalize oL K = t5 at *
        generalize v5l = mm at *
        simp [eVar_run, v, gl, e5, mL]
      unfold v5m
      rw [eLc_run, show iSeq (eVar 10) (slT o0 o1 l K p h o6 o7 o8 o9 (some (oWs L)) o11 o12 o13) μ = .ok (L.map oT) μ from rfl, bind_ok, show wipeD (slT o0 o1 l K p h o6 o7 o8 o9 (some (oWs L)) o11 o12 o13) [14] = slT o0 o1 l K p h o6 o7 o8 o9 (some (oWs L)) o11 o12 o13 from rfl, lc]
      simp only
      rw [if_pos (szN (by
        rw [List.length_map]
        have := List.length_filter_le T L
        omega))]
    have inF : wm ∈ L.filter T := List.mem_filter.mpr ⟨hwm, decide_eq_true rfl⟩
    obtain ⟨n, nss, eF⟩ : ∃ n nss, L.filter T = n :: nss := by
      cases q : L.filter T with
      | nil => rw [q] at inF; cases inF
      | cons a b => exact ⟨a, b, rfl⟩
    refine ⟨some (lowT n nss), lb (k := wm.length) (fun w hw => by have := kle w hw; omega) eF, ?_⟩
    have gm : ∀ μ, gMinT [oWs (L.filter T)] μ = some (oT (lowT n nss)) := fun μ => by
      rw [eF]
      have : tupsI ((n :: nss).map oT) = some (n :: nss) := tupsI_map (n :: nss)
      show (match tupsI ((n :: nss).map oT) with
        | some (n :: nss) => if (n :: nss).all (fun m => !m.isEmpty) = true then some (tIs (lowT n nss)) else none
        | _ => none) = _
      rw [this]
      show (if (n :: nss).all (fun m => !m.isEmpty) = true then some (tIs (lowT n nss)) else none) = _
      rw [if_pos]
      · rfl
      · rw [List.all_eq_true]
        intro m hm
        rw [← eF] at hm
        have := (ws m (List.mem_filter.mp hm).1).1
        cases m with
        | nil => exact absurd rfl this
        | cons a b => rfl
    show _ = SOut.nx (slT o0 o1 l K p h o6 o7 o8 o9 (some (oWs L)) (some (oT (lowT n nss))) o12 o13) μ
    unfold v5s v5e slT
    unfold slT at e5m
    generalize oT (lowT n nss) = t7 at *
    generalize oWs (L.filter T) = t6 at *
    generalize oWs L = t at *
    generalize oWs [] = t2 at *
    generalize oL K = t5 at *
    generalize v5m = mm at *
    simp [eVar_run, vw, gn, ge, e5m, gm]
theorem v6_run (c : Ct G l p h μ) (W : Web G) (hr : ∀ z ∈ keysG G, 0 ≤ z ∧ z < 900) (hx : x ∈ keysG G) (hy : y ∈ keysG G) {o : Option (List Int)} (ho : Best G x y o) : v6s (slT o0 o1 l K p h o6 o7 (some (.int x)) (some (.int y)) o10 (some (oW o)) o12 o13) μ = .nx (slT o0 o1 l K p h o6 o7 (some (.int x)) (some (.int y)) o10 (some (oW o)) o12 o13) μ := by
  obtain ⟨q, h1, e1⟩ := way_run (b := false) W hx hy
  obtain ⟨q2, h2, te2⟩ := way_run (b := true) W hx hy
  have z1 := h1.eq ho
  have z2 := h2.eq ho
  subst z1
  subst z2
  have lo : locB true 0 (oW q2) = true := by
    cases q2 with
    | none => rfl
    | some w => exact loc_oT w
  have c1 := lent2 (m := f_way_up) (d := .int x) (d2 := .int y) c.hd lo rfl rfl e1
  have c2 := lent2 (m := f_way_up) (d := .int x) (d2 := .int y) c.pd lo rfl rfl te2
  have sm : Sm 1 20 (oW q2) := by
    cases q2 with
    | none => exact .non
    | some w =>
      obtain ⟨r, rfl, hw⟩ := ho.1
      have rkx := (hw.rank W hx).1
      have := rk_lt hx
      have := W.few
      refine .tup (w := 0) (fun d hd => ?_) (by rw [List.length_map, List.length_cons]; omega)
      obtain ⟨z, hz, rfl⟩ := List.mem_map.mp hd
      have : z ∈ keysG G := by
        have hall : ∀ (r : List Int) (x e : Int), x ∈ keysG G → WayR G x r e → ∀ z ∈ x :: r, z ∈ keysG G := fun r => by
          induction r with
          | nil => intro x e hx _ z hz; rw [List.mem_singleton.mp hz]; exact hx
          | cons y r ih =>
            intro x e hx h z hz
            rcases List.mem_cons.mp hz with rfl | hz
            · exact hx
            · exact ih y e (W.link hx h.1).1 h.2 z hz
        exact hall r x y hx hw z hz
      have := hr z this
      exact .int (by omega)
  have s2 : Sm 2 100 (.lst [oW q2, oW q2]) := .lst (w := 20) (fun d hd => by
    simp only [List.mem_cons, List.not_mem_nil, or_false] at hd
    rcases hd with rfl | rfl <;> exact sm) (by simp)
  obtain ⟨s, r1, r2⟩ := s2.repr (by omega) (by omega)
  have r3 := str_nes r1
  have gd2 : ∀ μ, gLstD [oW q2, oW q2] μ = some (.lst [oW q2, oW q2]) := fun _ => rfl
  have v := oW_v q2
  unfold v6s slT
  generalize oW q2 = t at *
  generalize oL K = t5 at *
  simp [eVar_run, v, c1, c2, gd2, r2, r3, permL]
theorem b2_run (c : Ct G l p h μ) (W : Web G) (hr : ∀ z ∈ keysG G, 0 ≤ z ∧ z < 900) (hK : K = keysG G) (hne : G ≠ []) : ∃ (p8 p9 p10 p11 : Option D) (μ' : Mem), m_law_b2 (slT o0 o1 l K p h o6 o7 o8 o9 o10 o11 o12 o13) μ = .nx (slT o0 o1 l K p h o6 o7 p8 p9 p10 p11 o12 o13) μ' ∧ Ct G l p h μ' := by
  have few := W.few
  have kl : (keysG G).length = G.length := List.length_map _
  have kne : K ≠ [] := by
    rw [hK]
    intro q
    rw [q] at kl
    exact hne (List.length_eq_zero_iff.mp kl.symm)
  obtain ⟨x, y, μ1, s1, hx, hy, c1⟩ := v1_run (o0 := o0) (o1 := o1) (o6 := o6) (o7 := o7) (o8 := o8) (o9 := o9) (o10 := o10) (o11 := o11) (o12 := o12) (o13 := o13) c kne (by rw [hK]; omega)
  rw [hK] at hx hy
  have s2 := v2_run (o0 := o0) (o1 := o1) (o6 := o6) (o7 := o7) (o10 := o10) (o11 := o11) (o12 := o12) (o13 := o13) (K := K) c1 W hr hx hy
  have s3 := v3_run (o0 := o0) (o1 := o1) (o6 := o6) (o7 := o7) (o10 := o10) (o11 := o11) (o12 := o12) (o13 := o13) (K := K) c1 W hr hx hy
  have s4 := v4_run (o0 := o0) (o1 := o1) (o6 := o6) (o7 := o7) (o10 := o10) (o11 := o11) (o12 := o12) (o13 := o13) (K := K) (y := y) c1 W hx
  obtain ⟨o, ho, s5⟩ := v5_run (o0 := o0) (o1 := o1) (l := l) (p := p) (h := h) (μ := μ1) (o6 := o6) (o7 := o7) (o8 := some (.int x)) (o9 := some (.int y)) (o11 := o11) (o12 := o12) (o13 := o13) (K := K) W hx hy
  have s6 := v6_run (o0 := o0) (o1 := o1) (o6 := o6) (o7 := o7) (o10 := some (oWs (wys G x y (G.length + 1)))) (o12 := o12) (o13 := o13) (K := K) c1 W hr hx hy ho
  exact ⟨_, _, _, _, μ1, (congrFun (congrFun b2_f _) _).trans <| (seq_nx s1).trans <| (seq_nx s2).trans <| (seq_nx s3).trans <| (seq_nx s4).trans <| (seq_nx s5).trans s6, c1⟩
end
end K61
set_option Elab.async false
set_option linter.all false
set_option maxRecDepth 100000
namespace K61
open PySem PySem.Spec PyProof.Rows L2 Kw El
def q1s : SM := (sAsg (eCallM f__law_box (aCons (eVar 0) (aCons (eVar 1) aNil))) (gNm 2))
def q2s : SM := (sAsg (eCallM f__law_web (aCons (eVar 2) aNil)) (gSeq 2 (gsCons (gNm 3) (gsCons (gNm 4) gsNil))))
def q4s : SM := (sAsg eNewD (gNm 5))
def q5s : SM := (sFor (iSeq (eVar 3)) (gNm 6) m_law_b1)
def q6s : SM := (sFor (iRange1 (aCons (eC (.int 4)) aNil)) (gNm 7) m_law_b2)
def q7s : SM := (sAsg (eCallM f__law_pick (aCons (eVar 2) (aCons (eAs gLstD (aCons (eC (.int 901)) (aCons (e2 Kw.gSub (eC (.int 0)) (eC (.int 1))) (aCons (eC .non) aNil)))) aNil))) (gNm 12))
def q8s : SM := (sFor (iSeq (eAs gTupD (aCons (eC (.glb "elders")) aNil))) (gNm 13) m_law_b3)
def eObj : EM := (eAs gTupD (aCons (eC (.str "object")) (aCons (eAs gRepr (aCons (eVar 12) aNil)) (aCons (eC (.bl true)) aNil))))
def q9s : SM := (sIf (tBl (e2 gNe (eHrd f__law_heard (eCallP f_common_elders (aCons (eVar 4) (aCons (eVar 12) (aCons (e2 gIx (eVar 3) (eC (.int 0))) aNil))))) eObj)) (sRet (eC (.bl false))) sNext)
def q10s : SM := (sIf (tBl (e2 gNe (eHrd f__law_heard (eCallP f_nearest_common (aCons (eVar 4) (aCons (e2 gIx (eVar 3) (eC (.int 0))) (aCons (eVar 12) aNil))))) eObj)) (sRet (eC (.bl false))) sNext)
def q11s : SM := (sIf (tBl (e2 gNe (eHrd f__law_heard (eCallP f_way_up (aCons (eVar 4) (aCons (eVar 12) (aCons (e2 gIx (eVar 3) (eC (.int 0))) aNil))))) eObj)) (sRet (eC (.bl false))) sNext)
def q12l : EM := (eLc (iSeq (eVar 3)) (gNm 6) tYesM (eAs gTupD (aCons (eVar 6) (aCons (eAs gList (aCons (e2 gIxD (eVar 4) (eVar 6)) aNil)) aNil))) [6])
def q12s : SM := (sIf (tBl (e2 gNeDD (eVar 5) (eAsM gNewDP (aCons q12l aNil)))) (sRet (eC (.bl false))) sNext)
theorem b4_f : m_law_b4 = sSeq q1s (sSeq q2s (sSeq (sFrz 3) (sSeq q4s (sSeq q5s (sSeq q6s (sSeq q7s (sSeq q8s (sSeq q9s (sSeq q10s (sSeq q11s q12s)))))))))) := rfl
theorem b3_f : m_law_b3 = sIf (tBl (e2 gNe (eHrd f__law_heard (eCallV 13 [("elders", 2, f_elders)] (aCons (eVar 4) (aCons (eVar 12) aNil)))) eObj)) (sRet (eC (.bl false))) sNext := rfl
theorem f_obj {ask : AskM} {d : D} {s : Str} {μ : Mem} (h : ask μ = .exc (noO d) μ) (hs : ∀ μ, gRepr [d] μ = some (.str s)) : f__law_heard ask μ = .ok (.tup [.str "object", .str s, .bl true]) μ := by
  refine bodyH_ret ?_
  show m__law_heard ask [some .lam, none] μ = _
  unfold m__law_heard
  rw [tryU_exc (x := noO d) (δ' := [some .lam, none]) (μ' := μ) (by simp [h])]
  have lk : List.lookup ("name" : Str) [(("name" : Str), d)] = some d := by simp [List.lookup]
  refine goH_ret (by rfl) rfl ?_
  have gt : ∀ μ, gTupD [.str "object", .str s, .bl true] μ = some (.tup [.str "object", .str s, .bl true]) := fun _ => rfl
  simp [noO, lk, hs, gt]
/-- what is not there -/
def Odd (G : Lk) (d : D) : Prop := flt1 d = true ∧ (∀ μ, vOf (some (some d)) μ = .ok d μ) ∧ (∀ b μ, callP f_need_there [pG b G, d] μ = .exc (noO d) μ) ∧ (∀ b μ, callP f_elders [pG b G, d] μ = .exc (noO d) μ) ∧ ∃ s, (∀ μ, gRepr [d] μ = some (.str s)) ∧ ∀ μ, gNe (.tup [.str "object", .str s, .bl true]) (.tup [.str "object", .str s, .bl true]) μ = some (.bl false)
theorem odd_s {s : Str} (hs : Sm 0 20 (.str s)) (μ : Mem) : gNe (.tup [.str "object", .str s, .bl true]) (.tup [.str "object", .str s, .bl true]) μ = some (.bl false) := (Sm.tup (n := 0) (w := 20) (W := 100) (fun d hd => by
  simp only [List.mem_cons, List.not_mem_nil, or_false] at hd
  rcases hd with rfl | rfl | rfl
  · exact .str (by decide +kernel)
  · exact hs
  · exact .bl) (by simp)).ne (by omega) μ
theorem odd_of {G : Lk} (hr : ∀ z ∈ keysG G, 0 ≤ z ∧ z < 900) {d : D} (h : d ∈ [D.int 901, .int (0 - 1), .non]) : Odd G d := by
  simp only [List.mem_cons, List.not_mem_nil, or_false] at h
  rcases h with rfl | rfl | rfl
  · have k : (901 : Int) ∉ keysG G := fun q => by have := hr _ q; omega
    exact ⟨rfl, fun _ => rfl, fun b μ => need_bad k μ, fun b μ => elders_bad k μ, (PyData.int 901).shown, fun _ => rfl, odd_s (.str (by decide +kernel))⟩
  · have k : (0 - 1 : Int) ∉ keysG G := fun q => by have := hr _ q; omega
    exact ⟨rfl, fun _ => rfl, fun b μ => need_bad k μ, fun b μ => elders_bad k μ, (PyData.int (0 - 1)).shown, fun _ => rfl, odd_s (.str (by decide +kernel))⟩
  · exact ⟨rfl, fun _ => rfl, fun b μ => need_non μ, fun b μ => elders_non μ, (PyData.none).shown, fun _ => rfl, odd_s (.str (by decide +kernel))⟩
section
variable {G : Lk} {l p h : Nat} {μ : Mem} {o0 o1 o6 o7 o8 o9 o10 o11 o12 o13 : Option D} {K : List Int} {x y : Int}
theorem b1_run {pre : Lk} (hp : μ[p]? = some (.dct (dE (sqI true) G))) (hh : μ[h]? = some (.dct (dE (sqI false) pre))) (hx : x ∈ keysG G) (hn : x ∉ keysG pre) (hl : pre.length ≤ 1000) : m_law_b1 (slT o0 o1 l K p h (some (.int x)) o7 o8 o9 o10 o11 o12 o13) μ = .nx (slT o0 o1 l K p h (some (.int x)) o7 o8 o9 o10 o11 o12 o13) (μ.set h (.dct (dE (sqI false) (pre ++ [(x, lnk G x)])))) := by
  have ix := ixD_run (e := sqI true) (G := G) (k := x) (dctOf_loc hp) (look hx)
  have gl : gList [sqI true (lnk G x)] μ = some (sqI false (lnk G x)) := rfl
  have sd := setD_new (e := sqI false) (G := pre) (k := x) (v := lnk G x) hh (lookup_none.mpr hn) (by omega)
  unfold m_law_b1 slT
  generalize sqI true (lnk G x) = t1 at *
  generalize sqI false (lnk G x) = t2 at *
  generalize oL K = t5 at *
  simp [eVar_run, ix, gl, sd]
theorem b1_loop (nd : (keysG G).Nodup) (few : G.length ≤ 12) (hne : p ≠ h) : ∀ (rs pre : Lk) (μ : Mem) (o6 : Option D), G = pre ++ rs → μ[p]? = some (.dct (dE (sqI true) G)) → μ[h]? = some (.dct (dE (sqI false) pre)) → ∃ p6 μ', loopS (gNm 6) m_law_b1 ((keysG rs).map D.int) (slT o0 o1 l K p h o6 o7 o8 o9 o10 o11 o12 o13) μ = .nx (slT o0 o1 l K p h p6 o7 o8 o9 o10 o11 o12 o13) μ' ∧ μ'[h]? = some (.dct (dE (sqI false) G)) ∧ Stay h μ μ'
  | [], pre, μ, o6, e, hp, hh => ⟨o6, μ, rfl, by rw [e, List.append_nil]; exact hh, .refl _ _⟩
  | (x, zs) :: rs, pre, μ, o6, e, hp, hh => by
    have hlt : h < μ.length := (List.getElem?_eq_some_iff.mp hh).1
    have em : (x, zs) ∈ G := by rw [e]; simp
    have hx : x ∈ keysG G := List.mem_map.mpr ⟨_, em, rfl⟩
    have lk : lnk G x = zs := lnk_of (lookup_mem em nd)
    have hn : x ∉ keysG pre := by
      have nd' := nd
      rw [e] at nd'
      unfold keysG at nd'
      rw [List.map_append, List.nodup_append] at nd'
      exact fun q => nd'.2.2 x q x (by simp) rfl
    have pl : pre.length ≤ 1000 := by
      have := congrArg List.length e
      rw [List.length_append] at this
      omega
    have t := b1_run (o0 := o0) (o1 := o1) (l := l) (K := K) (o7 := o7) (o8 := o8) (o9 := o9) (o10 := o10) (o11 := o11) (o12 := o12) (o13 := o13) hp hh hx hn pl
    rw [lk] at t
    obtain ⟨p6, μ', q, h1, h2⟩ := b1_loop nd few hne rs (pre ++ [(x, zs)]) (μ.set h (.dct (dE (sqI false) (pre ++ [(x, zs)])))) (some (.int x)) (by rw [e, List.append_assoc]; rfl) (by rw [List.getElem?_set_ne (fun z => hne z.symm)]; exact hp) (List.getElem?_set_self hlt)
    refine ⟨p6, μ', ?_, h1, (Stay.set h μ _).trans h2⟩
    exact (loopS_nx (show gNm 6 (.int x) (slT o0 o1 l K p h o6 o7 o8 o9 o10 o11 o12 o13) μ = .nx (slT o0 o1 l K p h (some (.int x)) o7 o8 o9 o10 o11 o12 o13) μ from rfl) t).trans q
theorem b2_loop (W : Web G) (hr : ∀ z ∈ keysG G, 0 ≤ z ∧ z < 900) (hK : K = keysG G) (hne : G ≠ []) : ∀ (ds : List D) (μ : Mem) (o7 o8 o9 o10 o11 : Option D), Ct G l p h μ → ∃ (p7 p8 p9 p10 p11 : Option D) (μ' : Mem), loopS (gNm 7) m_law_b2 ds (slT o0 o1 l K p h o6 o7 o8 o9 o10 o11 o12 o13) μ = .nx (slT o0 o1 l K p h o6 p7 p8 p9 p10 p11 o12 o13) μ' ∧ Ct G l p h μ'
  | [], μ, o7, o8, o9, o10, o11, c => ⟨o7, o8, o9, o10, o11, μ, rfl, c⟩
  | d :: ds, μ, o7, o8, o9, o10, o11, c => by
    obtain ⟨p8, p9, p10, p11, μ1, t, c1⟩ := b2_run (o0 := o0) (o1 := o1) (o6 := o6) (o7 := some d) (o8 := o8) (o9 := o9) (o10 := o10) (o11 := o11) (o12 := o12) (o13 := o13) c W hr hK hne
    obtain ⟨q7, q8, q9, q10, q11, μ', e, c'⟩ := b2_loop W hr hK hne ds μ1 (some d) p8 p9 p10 p11 c1
    exact ⟨q7, q8, q9, q10, q11, μ', (loopS_nx (show gNm 7 d (slT o0 o1 l K p h o6 o7 o8 o9 o10 o11 o12 o13) μ = .nx (slT o0 o1 l K p h o6 (some d) o8 o9 o10 o11 o12 o13) μ from rfl) t).trans e, c'⟩
theorem hrd_run {m : EM} {δ : Sv} {d : D} {s : Str} (hm : m δ μ = .exc (noO d) μ) (hv : eVar 12 δ μ = .ok d μ) (hs : ∀ μ, gRepr [d] μ = some (.str s)) (hn : ∀ μ, gNe (.tup [.str "object", .str s, .bl true]) (.tup [.str "object", .str s, .bl true]) μ = some (.bl false)) : sIf (tBl (e2 gNe (eHrd f__law_heard m) eObj)) (sRet (eC (.bl false))) sNext δ μ = .nx δ μ := by
  have a : eHrd f__law_heard m δ μ = .ok (.tup [.str "object", .str s, .bl true]) μ := by
    rw [eHrd_run, f_obj hm hs]
  have b : eObj δ μ = .ok (.tup [.str "object", .str s, .bl true]) μ := by
    have gt : ∀ μ, gTupD [.str "object", .str s, .bl true] μ = some (.tup [.str "object", .str s, .bl true]) := fun _ => rfl
    unfold eObj
    simp [hv, hs, gt]
  generalize eHrd f__law_heard m = mm at *
  generalize eObj = mo at *
  generalize D.tup [.str "object", .str s, .bl true] = t at *
  simp [a, b, hn]
theorem elders_loc {d : D} (hp : μ[p]? = some (.dct (dE (sqI true) G))) (ho : Odd G d) : callM f_elders [.loc p, d] μ = .exc (noO d) μ := by
  obtain ⟨h1, h2, h3, h4, _⟩ := ho
  have nr := lent1X (m := f_need_there) (b := true) hp (x := noO d) (by show (locB true 0 d && true) = true; rw [flt1_loc h1]; rfl) h1 (h3 true)
  refine callM_exc (body_exc (δ := [some (.loc p), some d, none, none, none]) (δ' := [some (.loc p), some d, none, none, none]) rfl ((congrFun (congrFun el_f _) _).trans ?_))
  have s1 : ee1 [some (.loc p), some d, none, none, none] μ = .exc (noO d) [some (.loc p), some d, none, none, none] μ := by
    simp [ee1, eDispN, eVar_run, h2, nr]
  unfold sSeq
  rw [s1]; rfl
theorem b3_run {d : D} (c : Ct G l p h μ) (ho : Odd G d) : m_law_b3 (slT o0 o1 l K p h o6 o7 o8 o9 o10 o11 (some d) (some (.glb "elders"))) μ = .nx (slT o0 o1 l K p h o6 o7 o8 o9 o10 o11 (some d) (some (.glb "elders"))) μ := by
  have te := elders_loc c.pd ho
  obtain ⟨h1, h2, h3, h4, s, hs, hn⟩ := ho
  refine (congrFun (congrFun b3_f _) _).trans (hrd_run ?_ (h2 μ) hs hn)
  rw [eCallV_run (n := 2) (y := "elders") (m := f_elders) (μ1 := μ) (ds := [.loc p, d]) rfl rfl (by
    unfold slT
    generalize oL K = t at *
    simp [eVar_run, h2]) rfl]
  exact te
theorem q9_run {d : D} (c : Ct G l p h μ) (ho : Odd G d) (hx : K = x :: K') : q9s (slT o0 o1 l K p h o6 o7 o8 o9 o10 o11 (some d) o13) μ = .nx (slT o0 o1 l K p h o6 o7 o8 o9 o10 o11 (some d) o13) μ := by
  obtain ⟨h1, h2, h3, h4, s, hs, hn⟩ := ho
  have le : locBs false 0 [pG true G, d, .int x] = true := pG_ls3 (flt1_loc h1 false 0) rfl
  have lf : locBs false 0 ((noO d).fs.map (·.2)) = true := by show (locB false 0 d && true) = true; rw [flt1_loc h1]; rfl
  have lt : locBs true 0 ((noO d).fs.map (·.2)) = true := by show (locB true 0 d && true) = true; rw [flt1_loc h1]; rfl
  have te := lent2X (m := f_common_elders) (b := true) (d := d) (d2 := .int x) c.pd lt h1 rfl (common_exc h2 le lf (h4 true))
  have ix : gIx (oL K) (.int 0) μ = some (.int x) := by rw [hx]; exact ix_nat (μ := μ) (k := 0) (show seqOf μ (oL (x :: K')) = some ((x :: K').map D.int) from rfl)
  refine hrd_run ?_ (h2 μ) hs hn
  have v := oL_v K
  unfold slT
  generalize oL K = t at *
  simp [eVar_run, h2, v, ix, te]
theorem q10_run {d : D} (c : Ct G l p h μ) (W : Web G) (ho : Odd G d) (hx : K = x :: K') (hk : x ∈ keysG G) : q10s (slT o0 o1 l K p h o6 o7 o8 o9 o10 o11 (some d) o13) μ = .nx (slT o0 o1 l K p h o6 o7 o8 o9 o10 o11 (some d) o13) μ := by
  obtain ⟨h1, h2, h3, h4, s, hs, hn⟩ := ho
  have le : locBs false 0 [pG true G, .int x, d] = true := pG_ls3 rfl (flt1_loc h1 false 0)
  have lf : locBs false 0 ((noO d).fs.map (·.2)) = true := by show (locB false 0 d && true) = true; rw [flt1_loc h1]; rfl
  have lt : locBs true 0 ((noO d).fs.map (·.2)) = true := by show (locB true 0 d && true) = true; rw [flt1_loc h1]; rfl
  have te := lent2X (m := f_nearest_common) (b := true) (d := .int x) (d2 := d) c.pd lt rfl h1 (near_exc (fun _ => rfl) h2 le lf (common_exc2 W hk h2 le lf (h4 true)))
  have ix : gIx (oL K) (.int 0) μ = some (.int x) := by rw [hx]; exact ix_nat (μ := μ) (k := 0) (show seqOf μ (oL (x :: K')) = some ((x :: K').map D.int) from rfl)
  refine hrd_run ?_ (h2 μ) hs hn
  have v := oL_v K
  unfold slT
  generalize oL K = t at *
  simp [eVar_run, h2, v, ix, te]
theorem q11_run {d : D} (c : Ct G l p h μ) (ho : Odd G d) (hx : K = x :: K') : q11s (slT o0 o1 l K p h o6 o7 o8 o9 o10 o11 (some d) o13) μ = .nx (slT o0 o1 l K p h o6 o7 o8 o9 o10 o11 (some d) o13) μ := by
  obtain ⟨h1, h2, h3, h4, s, hs, hn⟩ := ho
  have le : locBs false 0 [pG true G, d, .int x] = true := pG_ls3 (flt1_loc h1 false 0) rfl
  have lf : locBs false 0 ((noO d).fs.map (·.2)) = true := by show (locB false 0 d && true) = true; rw [flt1_loc h1]; rfl
  have lt : locBs true 0 ((noO d).fs.map (·.2)) = true := by show (locB true 0 d && true) = true; rw [flt1_loc h1]; rfl
  have te := lent2X (m := f_way_up) (b := true) (d := d) (d2 := .int x) c.pd lt h1 rfl (way_exc h2 le lf (h3 true))
  have ix : gIx (oL K) (.int 0) μ = some (.int x) := by rw [hx]; exact ix_nat (μ := μ) (k := 0) (show seqOf μ (oL (x :: K')) = some ((x :: K').map D.int) from rfl)
  refine hrd_run ?_ (h2 μ) hs hn
  have v := oL_v K
  unfold slT
  generalize oL K = t at *
  simp [eVar_run, h2, v, ix, te]
theorem pairs_of : ∀ G : Lk, pairsD (G.map fun q => D.tup [.int q.1, oL q.2]) = some (dE (sqI false) G)
  | [] => rfl
  | (x, zs) :: G => by
    rw [List.map_cons]
    show (if (keyK (.int x)).isSome = true then (pairsD (G.map fun q => D.tup [.int q.1, oL q.2])).map ((D.int x, oL zs) :: ·) else none) = _
    rw [pairs_of G]; rfl
theorem merge_same (nd : (keysG G).Nodup) : mergeKD [] (dE (sqI false) G) = dE (sqI false) G := by
  have := merge_fold (ev := sqI false) G []
  rw [dE_nil] at this
  rw [this, Kw.Dh.foldG_new G [] nd (fun _ _ => rfl), List.nil_append]
  congr 1
  exact List.map_id' G
theorem same_self (nd : (keysG G).Nodup) : sameD (dE (sqI false) G) (dE (sqI false) G) = true := by
  unfold sameD
  rw [Bool.and_eq_true]
  refine ⟨by simp, ?_⟩
  rw [List.all_eq_true]
  intro q hq
  obtain ⟨⟨x, zs⟩, hm, rfl⟩ := List.mem_map.mp hq
  have vd := valD_dE (e := sqI false) (k := x) G
  rw [lookup_mem hm nd] at vd
  have vd : valD (dE (sqI false) G) (.inl x) = some (oL zs) := vd
  show (match keyK (.int x) with
    | some k => match valD (dE (sqI false) G) k with
      | some d => sameL (oL zs) d
      | none => false
    | none => false) = true
  rw [keyK_i]
  show (match valD (dE (sqI false) G) (.inl x) with
      | some d => sameL (oL zs) d
      | none => false) = true
  rw [vd]
  show ((intsOf (zs.map D.int)).isSome && decide (intsOf (zs.map D.int) = intsOf (zs.map D.int))) = true
  rw [intsOf_map]; simp
theorem q12_run (c : Ct G l p h μ) (nd : (keysG G).Nodup) (few : G.length ≤ 12) (hK : K = keysG G) : ∃ μ', q12s (slT o0 o1 l K p h o6 o7 o8 o9 o10 o11 o12 o13) μ = .nx (slT o0 o1 l K p h o6 o7 o8 o9 o10 o11 o12 o13) μ' := by
  have hlt : h < μ.length := (List.getElem?_eq_some_iff.mp c.hd).1
  have el : q12l (slT o0 o1 l K p h o6 o7 o8 o9 o10 o11 o12 o13) μ = .ok (.lst (G.map fun q => D.tup [.int q.1, oL q.2])) μ := by
    have a := lcL_map (e := fun q : Int × List Int => D.int q.1) (f := fun q => D.tup [.int q.1, oL q.2]) (i := 6) (δ := slT o0 o1 l K p h none o7 o8 o9 o10 o11 o12 o13) (me := (eAs gTupD (aCons (eVar 6) (aCons (eAs gList (aCons (e2 gIxD (eVar 4) (eVar 6)) aNil)) aNil)))) (μ := μ) G fun q hq => by
      obtain ⟨x, zs⟩ := q
      have ix := ixD_run (e := sqI true) (G := G) (k := x) (dctOf_loc c.pd) (lookup_mem hq nd)
      have gl : gList [sqI true zs] μ = some (oL zs) := rfl
      have gt : gTupD [.int x, oL zs] μ = some (.tup [.int x, oL zs]) := rfl
      show (eAs gTupD (aCons (eVar 6) (aCons (eAs gList (aCons (e2 gIxD (eVar 4) (eVar 6)) aNil)) aNil))) (slT o0 o1 l K p h (some (.int x)) o7 o8 o9 o10 o11 o12 o13) μ = _
      unfold slT
      generalize sqI true zs = t1 at *
      generalize oL zs = t2 at *
      generalize oL K = t5 at *
      simp [eVar_run, ix, gl, gt]
    have em : G.map (fun q : Int × List Int => D.int q.1) = K.map D.int := by rw [hK]; unfold keysG; rw [List.map_map]; rfl
    rw [em] at a
    unfold q12l
    rw [eLc_run, show iSeq (eVar 3) (slT o0 o1 l K p h o6 o7 o8 o9 o10 o11 o12 o13) μ = .ok (K.map D.int) μ from rfl, bind_ok, show wipeD (slT o0 o1 l K p h o6 o7 o8 o9 o10 o11 o12 o13) [6] = slT o0 o1 l K p h none o7 o8 o9 o10 o11 o12 o13 from rfl, a]
    simp only
    rw [if_pos (szN (by rw [List.length_map]; omega))]
  refine ⟨μ ++ [.dct (dE (sqI false) G)], ?_⟩
  have np : gNewDP [.lst (G.map fun q => D.tup [.int q.1, oL q.2])] μ = some (.loc μ.length, μ ++ [.dct (dE (sqI false) G)]) := by
    unfold gNewDP
    simp only [pairs_of, merge_same nd]
  have ne : gNeDD (.loc h) (.loc μ.length) (μ ++ [.dct (dE (sqI false) G)]) = some (.bl false) := by
    unfold gNeDD
    have e1 : (μ ++ [Ob.dct (dE (sqI false) G)])[h]? = some (.dct (dE (sqI false) G)) := by rw [List.getElem?_append_left hlt]; exact c.hd
    have e2' : (μ ++ [Ob.dct (dE (sqI false) G)])[μ.length]? = some (.dct (dE (sqI false) G)) := by simp
    simp only [e1, e2', same_self nd]
    rfl
  unfold q12s slT
  unfold slT at el
  generalize D.lst (G.map fun q => D.tup [.int q.1, oL q.2]) = t at *
  generalize (μ ++ [.dct (dE (sqI false) G)] : Mem) = m at *
  generalize oL K = t5 at *
  generalize q12l = ll at *
  simp [eVar_run, el, np, ne]
end
abbrev slA (ns : List Int) (kk : Int) (o2 o3 o4 o5 o6 o7 o8 o9 o10 o11 o12 o13 : Option D) : Sv := [some (.scr (ns.map D.int)), some (.int kk), o2, o3, o4, o5, o6, o7, o8, o9, o10, o11, o12, o13, none, none]
theorem turn_ok {ns : List Int} {kk : Int} (h0 : 0 ≤ kk) {μ : Mem} {o2 o3 o4 o5 o6 o7 o8 o9 o10 o11 o12 o13 : Option D} : ∃ (p2 p3 p4 p5 p6 p7 p8 p9 p10 p11 p12 p13 : Option D) (μ' : Mem), m_law_b4 (slA ns kk o2 o3 o4 o5 o6 o7 o8 o9 o10 o11 o12 o13) μ = .nx (slA ns kk p2 p3 p4 p5 p6 p7 p8 p9 p10 p11 p12 p13) μ' := by
  obtain ⟨μ1, e1, hb1, k1⟩ := box_bx (ns := ns) (μ := μ) h0
  have s1 : q1s (slA ns kk o2 o3 o4 o5 o6 o7 o8 o9 o10 o11 o12 o13) μ = .nx (slA ns kk (some (.loc μ.length)) o3 o4 o5 o6 o7 o8 o9 o10 o11 o12 o13) μ1 := by
    unfold q1s slA
    generalize ns.map D.int = t at *
    simp [eVar_run, e1]
  obtain ⟨G, μ2, te2, w2, wg, few, hne⟩ := web_run hb1
  have W := wg.web few
  have l1 : μ.length < μ1.length := hb1.lt
  have s2 : q2s (slA ns kk (some (.loc μ.length)) o3 o4 o5 o6 o7 o8 o9 o10 o11 o12 o13) μ1 = .nx (slA ns kk (some (.loc μ.length)) (some (.loc μ1.length)) (some (.loc (μ1.length + 1))) o5 o6 o7 o8 o9 o10 o11 o12 o13) μ2 := by
    have v : eCallM f__law_web (aCons (eVar 2) aNil) (slA ns kk (some (.loc μ.length)) o3 o4 o5 o6 o7 o8 o9 o10 o11 o12 o13) μ1 = .ok (.tup [.loc μ1.length, .loc (μ1.length + 1)]) μ2 := by
      unfold slA
      generalize ns.map D.int = t at *
      simp [eVar_run, te2]
    unfold q2s
    rw [sAsg_run, v]; rfl
  have s3 : sFrz 3 (slA ns kk (some (.loc μ.length)) (some (.loc μ1.length)) (some (.loc (μ1.length + 1))) o5 o6 o7 o8 o9 o10 o11 o12 o13) μ2 = .nx (slA ns kk (some (.loc μ.length)) (some (oL (keysG G))) (some (.loc (μ1.length + 1))) o5 o6 o7 o8 o9 o10 o11 o12 o13) (μ2.set μ1.length .gone) := frz_at rfl w2.ln
  have n2 : μ1.length + 1 < μ2.length := (List.getElem?_eq_some_iff.mp w2.dn).1
  let μ3 : Mem := μ2.set μ1.length .gone
  have len3 : μ3.length = μ2.length := List.length_set ..
  have hb3 : Bxn 2 μ3 μ.length := w2.bx.set (by omega)
  have d3 : μ3[μ1.length + 1]? = some (.dct (dE (sqI true) G)) := by
    show (μ2.set μ1.length .gone)[μ1.length + 1]? = _
    rw [List.getElem?_set_ne (by omega)]; exact w2.dn
  have s4 : q4s (slA ns kk (some (.loc μ.length)) (some (oL (keysG G))) (some (.loc (μ1.length + 1))) o5 o6 o7 o8 o9 o10 o11 o12 o13) μ3 = .nx (slT (some (.scr (ns.map D.int))) (some (.int kk)) μ.length (keysG G) (μ1.length + 1) μ3.length o6 o7 o8 o9 o10 o11 o12 o13) (μ3 ++ [.dct (dE (sqI false) [])]) := rfl
  have d4 : (μ3 ++ [Ob.dct (dE (sqI false) [])])[μ1.length + 1]? = some (.dct (dE (sqI true) G)) := by rw [List.getElem?_append_left (by omega)]; exact d3
  obtain ⟨p6, μ5, e5, hd5, st5⟩ := b1_loop (o0 := some (.scr (ns.map D.int))) (o1 := some (.int kk)) (l := μ.length) (K := keysG G) (p := μ1.length + 1) (h := μ3.length) (o7 := o7) (o8 := o8) (o9 := o9) (o10 := o10) (o11 := o11) (o12 := o12) (o13 := o13) wg.nd few (by omega) G [] (μ3 ++ [.dct (dE (sqI false) [])]) o6 rfl d4 (by simp)
  have s5 : q5s (slT (some (.scr (ns.map D.int))) (some (.int kk)) μ.length (keysG G) (μ1.length + 1) μ3.length o6 o7 o8 o9 o10 o11 o12 o13) (μ3 ++ [.dct (dE (sqI false) [])]) = .nx (slT (some (.scr (ns.map D.int))) (some (.int kk)) μ.length (keysG G) (μ1.length + 1) μ3.length p6 o7 o8 o9 o10 o11 o12 o13) μ5 := by
    unfold q5s
    rw [sFor_run, show iSeq (eVar 3) (slT (some (.scr (ns.map D.int))) (some (.int kk)) μ.length (keysG G) (μ1.length + 1) μ3.length o6 o7 o8 o9 o10 o11 o12 o13) (μ3 ++ [.dct (dE (sqI false) [])]) = .ok ((keysG G).map D.int) (μ3 ++ [.dct (dE (sqI false) [])]) from rfl, bindS_ok]
    exact e5
  have c5 : Ct G μ.length (μ1.length + 1) μ3.length μ5 := ⟨Bxn.same (hb3.app (b := .dct (dE (sqI false) []))) (st5.2 _ (by omega)), (st5.2 _ (by omega)).trans d4, hd5, by omega, by omega⟩
  obtain ⟨p7, p8, p9, p10, p11, μ6, e6, c6⟩ := b2_loop (o0 := some (.scr (ns.map D.int))) (o1 := some (.int kk)) (o6 := p6) (o12 := o12) (o13 := o13) W wg.rng rfl hne ((List.range 4).map fun (k : Nat) => D.int (k : Int)) μ5 o7 o8 o9 o10 o11 c5
  have s6 : q6s (slT (some (.scr (ns.map D.int))) (some (.int kk)) μ.length (keysG G) (μ1.length + 1) μ3.length p6 o7 o8 o9 o10 o11 o12 o13) μ5 = .nx (slT (some (.scr (ns.map D.int))) (some (.int kk)) μ.length (keysG G) (μ1.length + 1) μ3.length p6 p7 p8 p9 p10 p11 o12 o13) μ6 := by
    unfold q6s
    rw [sFor_run, range1_run (n := 4) (μ1 := μ5) rfl (by decide), bindS_ok]
    exact e6
  obtain ⟨d, μ7, e7, hd, hb7, st7⟩ := pickL (μ := μ6) (xs := [D.int 901, .int (0 - 1), .non]) c6.bx (by simp) (by decide)
  have c7 := c6.stay st7 hb7
  have od := odd_of wg.rng hd
  have s7 : q7s (slT (some (.scr (ns.map D.int))) (some (.int kk)) μ.length (keysG G) (μ1.length + 1) μ3.length p6 p7 p8 p9 p10 p11 o12 o13) μ6 = .nx (slT (some (.scr (ns.map D.int))) (some (.int kk)) μ.length (keysG G) (μ1.length + 1) μ3.length p6 p7 p8 p9 p10 p11 (some d) o13) μ7 := by
    have gl : ∀ μ, gLstD [.int 901, .int (0 - 1), .non] μ = some (.lst [.int 901, .int (0 - 1), .non]) := fun _ => rfl
    have v : eCallM f__law_pick (aCons (eVar 2) (aCons (eAs gLstD (aCons (eC (.int 901)) (aCons (e2 Kw.gSub (eC (.int 0)) (eC (.int 1))) (aCons (eC .non) aNil)))) aNil)) (slT (some (.scr (ns.map D.int))) (some (.int kk)) μ.length (keysG G) (μ1.length + 1) μ3.length p6 p7 p8 p9 p10 p11 o12 o13) μ6 = .ok d μ7 := by
      unfold slT
      generalize oL (keysG G) = t5 at *
      generalize ns.map D.int = t6 at *
      simp only [aCons_run, aNil_run, eCallM_run, eAs_run, e2_run, eC_run, bind_ok, gSub_int, oOf_some, gl, eVar_run]
      exact e7
    unfold q7s
    rw [sAsg_run, v]; rfl
  have s8 : q8s (slT (some (.scr (ns.map D.int))) (some (.int kk)) μ.length (keysG G) (μ1.length + 1) μ3.length p6 p7 p8 p9 p10 p11 (some d) o13) μ7 = .nx (slT (some (.scr (ns.map D.int))) (some (.int kk)) μ.length (keysG G) (μ1.length + 1) μ3.length p6 p7 p8 p9 p10 p11 (some d) (some (.glb "elders"))) μ7 := by
    have t := b3_run (o0 := some (.scr (ns.map D.int))) (o1 := some (.int kk)) (K := keysG G) (o6 := p6) (o7 := p7) (o8 := p8) (o9 := p9) (o10 := p10) (o11 := p11) c7 od
    unfold q8s
    rw [sFor_run, show iSeq (eAs gTupD (aCons (eC (.glb "elders")) aNil)) (slT (some (.scr (ns.map D.int))) (some (.int kk)) μ.length (keysG G) (μ1.length + 1) μ3.length p6 p7 p8 p9 p10 p11 (some d) o13) μ7 = .ok [.glb "elders"] μ7 from rfl, bindS_ok, loopS_nx (show gNm 13 (.glb "elders") (slT (some (.scr (ns.map D.int))) (some (.int kk)) μ.length (keysG G) (μ1.length + 1) μ3.length p6 p7 p8 p9 p10 p11 (some d) o13) μ7 = .nx (slT (some (.scr (ns.map D.int))) (some (.int kk)) μ.length (keysG G) (μ1.length + 1) μ3.length p6 p7 p8 p9 p10 p11 (some d) (some (.glb "elders"))) μ7 from rfl) t]
    rfl
  obtain ⟨x, K', hx⟩ : ∃ x K', keysG G = x :: K' := by
    cases G with
    | nil => exact absurd rfl hne
    | cons q G => exact ⟨q.1, keysG G, rfl⟩
  have hk : x ∈ keysG G := by rw [hx]; exact .head _
  have s9 := q9_run (o0 := some (.scr (ns.map D.int))) (o1 := some (.int kk)) (o6 := p6) (o7 := p7) (o8 := p8) (o9 := p9) (o10 := p10) (o11 := p11) (o13 := some (.glb "elders")) c7 od hx
  have s10 := q10_run (o0 := some (.scr (ns.map D.int))) (o1 := some (.int kk)) (o6 := p6) (o7 := p7) (o8 := p8) (o9 := p9) (o10 := p10) (o11 := p11) (o13 := some (.glb "elders")) c7 W od hx hk
  have s11 := q11_run (o0 := some (.scr (ns.map D.int))) (o1 := some (.int kk)) (o6 := p6) (o7 := p7) (o8 := p8) (o9 := p9) (o10 := p10) (o11 := p11) (o13 := some (.glb "elders")) c7 od hx
  obtain ⟨μ8, s12⟩ := q12_run (o0 := some (.scr (ns.map D.int))) (o1 := some (.int kk)) (o6 := p6) (o7 := p7) (o8 := p8) (o9 := p9) (o10 := p10) (o11 := p11) (o12 := some d) (o13 := some (.glb "elders")) (K := keysG G) c7 wg.nd few rfl
  exact ⟨_, _, _, _, _, _, _, _, _, _, _, _, μ8, (congrFun (congrFun b4_f _) _).trans <| (seq_nx s1).trans <| (seq_nx s2).trans <| (seq_nx s3).trans <| (seq_nx s4).trans <| (seq_nx s5).trans <| (seq_nx s6).trans <| (seq_nx s7).trans <| (seq_nx s8).trans <| (seq_nx s9).trans <| (seq_nx s10).trans <| (seq_nx s11).trans s12⟩
theorem pure (ns : List Int) (hl : ns.length ≤ 63) (hb : ∀ z ∈ ns, Builtin.Int.intBits z ≤ 1048576) : ∃ μ, f_law [.scr (ns.map D.int)] [] = .ok (.bl true) μ := by
  obtain ⟨δ', μ', e, o1, o2, o3, o4, o5, o6, o7, o8, o9, o10, o11, o12, o13, rfl⟩ := loopS_inv (g := gNm 1) (b := m_law_b4) (I := fun δ _ => ∃ o1 o2 o3 o4 o5 o6 o7 o8 o9 o10 o11 o12 o13, δ = [some (.scr (ns.map D.int)), o1, o2, o3, o4, o5, o6, o7, o8, o9, o10, o11, o12, o13, none, none]) (items := (List.range 2).map fun (k : Nat) => .int (k : Int)) (δ := [some (.scr (ns.map D.int)), none, none, none, none, none, none, none, none, none, none, none, none, none, none, none]) (μ := []) (fun d hd δ μ ⟨o1, o2, o3, o4, o5, o6, o7, o8, o9, o10, o11, o12, o13, e⟩ => by
    subst e
    obtain ⟨j, hj, rfl⟩ := List.mem_map.mp hd
    obtain ⟨q2, q3, q4, q5, q6, q7, q8, q9, q10, q11, q12, q13, μ2, te⟩ := turn_ok (ns := ns) (kk := (j : Int)) (μ := μ) (o2 := o2) (o3 := o3) (o4 := o4) (o5 := o5) (o6 := o6) (o7 := o7) (o8 := o8) (o9 := o9) (o10 := o10) (o11 := o11) (o12 := o12) (o13 := o13) (by omega)
    exact ⟨slA ns (j : Int) o2 o3 o4 o5 o6 o7 o8 o9 o10 o11 o12 o13, _, μ2, rfl, .inl te, _, _, _, _, _, _, _, _, _, _, _, _, _, rfl⟩) ⟨_, _, _, _, _, _, _, _, _, _, _, _, _, rfl⟩
  have r4 := range1_run (mr := aCons (eC (.int 2)) aNil) (δ := [some (.scr (ns.map D.int)), none, none, none, none, none, none, none, none, none, none, none, none, none, none, none]) (μ := []) (μ1 := []) (n := 2) rfl (by decide)
  refine ⟨μ', body_ret (δ := [some (.scr (ns.map D.int)), none, none, none, none, none, none, none, none, none, none, none, none, none, none, none]) rfl ?_⟩
  unfold m_law
  rw [seq_nx (by rw [sFor_run, r4]; exact e)]
  rfl
end K61
set_option Elab.async false
set_option linter.all false
set_option maxRecDepth 100000
set_option maxHeartbeats 0
namespace K61
open PySem PySem.Spec PyProof.Rows L2 Kw
def dd_need_there : He.DefD := ⟨("need_there", none), "need_there", "need_there", defArgs s_need_there, defBody s_need_there, defScope s_need_there, [], []⟩
def dd_elders : He.DefD := ⟨("elders", none), "elders", "elders", defArgs s_elders, defBody s_elders, defScope s_elders, [], []⟩
def dd_common_elders : He.DefD := ⟨("common_elders", none), "common_elders", "common_elders", defArgs s_common_elders, defBody s_common_elders, defScope s_common_elders, [], []⟩
def dd_nearest_common : He.DefD := ⟨("nearest_common", none), "nearest_common", "nearest_common", defArgs s_nearest_common, defBody s_nearest_common, defScope s_nearest_common, [], []⟩
def dd_way_up : He.DefD := ⟨("way_up", none), "way_up", "way_up", defArgs s_way_up, defBody s_way_up, defScope s_way_up, [], []⟩
def dd__law_box : He.DefD := ⟨("_law_box", none), "_law_box", "_law_box", defArgs s__law_box, defBody s__law_box, defScope s__law_box, [], []⟩
def dd__law_take : He.DefD := ⟨("_law_take", none), "_law_take", "_law_take", defArgs s__law_take, defBody s__law_take, defScope s__law_take, [], []⟩
def dd__law_pick : He.DefD := ⟨("_law_pick", none), "_law_pick", "_law_pick", defArgs s__law_pick, defBody s__law_pick, defScope s__law_pick, [], []⟩
def dd__law_web : He.DefD := ⟨("_law_web", none), "_law_web", "_law_web", defArgs s__law_web, defBody s__law_web, defScope s__law_web, [], []⟩
def dd__law_elders : He.DefD := ⟨("_law_elders", none), "_law_elders", "_law_elders", defArgs s__law_elders, defBody s__law_elders, defScope s__law_elders, [], []⟩
def dd__law_ways : He.DefD := ⟨("_law_ways", none), "_law_ways", "_law_ways", defArgs s__law_ways, defBody s__law_ways, defScope s__law_ways, [], []⟩
def dd__law_heard : He.DefD := ⟨("_law_heard", none), "_law_heard", "_law_heard", defArgs s__law_heard, defBody s__law_heard, defScope s__law_heard, [], []⟩
def dd__law_pair_right : He.DefD := ⟨("_law_pair_right", none), "_law_pair_right", "_law_pair_right", defArgs s__law_pair_right, defBody s__law_pair_right, defScope s__law_pair_right, [], []⟩
def dd_law : He.DefD := ⟨("law", none), "law", "law", defArgs s_law, defBody s_law, defScope s_law, [], []⟩
def fn : List He.DefD := [dd_need_there, dd_elders, dd_common_elders, dd_nearest_common, dd_way_up, dd__law_box, dd__law_take, dd__law_pick, dd__law_web, dd__law_elders, dd__law_ways, dd__law_heard, dd__law_pair_right, dd_law]
def fa : List He.Fa := [.glo "need_there", .glo "elders", .glo "common_elders", .glo "nearest_common", .glo "way_up", .glo "_law_box", .glo "_law_take", .glo "_law_pick", .glo "_law_web", .glo "_law_elders", .glo "_law_ways", .glo "_law_heard", .glo "_law_pair_right", .glo "law", .free "len", .free "tuple", .free "sorted", .free "list", .free "abs", .free "int", .free "range", .free "max", .free "enumerate", .free "set", .free "repr", .free "isinstance", .free "KeyError", .free "min", .free "dict", .glo "NoObject", .free "super"]
abbrev R : PySem.W.OpenRow := PySem.W.OpenLaw.row PySem.Challenge.rw_keptwhole_k61_whole_nearest_common_elder
def ex (K : PySem.W.Frag) : Bool := (supB K "/claim/cut.py" "NoObject" "name" "no such object" && (exmB K exTab && kitBb K "NoObject" "KeyError" true))
abbrev hk : PySem.W.Hook := hookS 4 fa fn [("law", none)] ex
def ob (s : PySem.W.SharedT) : He.AlX := obsS 4 fa fn [("law", none)] ex (HandSHeadRun.getT s)
theorem ob_eq (s : PySem.W.SharedT) : ob s = hk.obs s.abs := obsS_eq (HandSHeadRun.getT_eq s)
def loose : List Str := (["NoObject", "need_there", "elders", "common_elders", "nearest_common", "way_up", "_law_box", "_law_take", "_law_pick", "_law_web", "_law_elders", "_law_ways", "_law_heard", "_law_pair_right"] : List Str)
theorem run (w : World) : HandSHeadRun.RunEq R (PySem.W.view R.prog [17]) hk ob 8000 loose w := by
  intro os
  kernel_rfl
theorem facts {P : Program} {w : World} {K : PySem.W.Frag} {h : Heap} {mg : Str → Option Value} {f : Addr} {T : List (Addr × Str)} (X : K.In h) (G : h.Ns mainGlobals mg) (hfa : mg ("law" : Str) = some (.ref f)) (c : He.SaysX fa fn [] [("law", none)] ex w h K) (hfile : P.main.file = "/claim/cut.py") (htop : (P.main.scope.names.lookup ("super" : Str)).isSome = false) :
    ∃ fd : FuncData, (∀ (s : Shared) (v : Value), BindsTo s fd ⟨[v], []⟩ [("_law_script", v)]) ∧ ∀ base : Heap, K.In base → base.Ns mainGlobals mg → LamX.TabB base mg (He.cT K ("law", none)).1 (He.cT K ("law", none)).2 → FnG P w K mg base 8 f fd ["_law_script"] (spM K mg [((He.cT K ("law", none)).2, ("law.<locals>.<lambda>" : Str))] 1 f_law) := by
  obtain ⟨fd_need_there, F_need_there⟩ := c.t.d.def_ 0 (d := dd_need_there) rfl
  have g_need_there := He.glo_ok X G (c.t.d.fact 0 (f := .glo "need_there") rfl)
  obtain ⟨fd_elders, F_elders⟩ := c.t.d.def_ 1 (d := dd_elders) rfl
  have g_elders := He.glo_ok X G (c.t.d.fact 1 (f := .glo "elders") rfl)
  obtain ⟨fd_common_elders, F_common_elders⟩ := c.t.d.def_ 2 (d := dd_common_elders) rfl
  have g_common_elders := He.glo_ok X G (c.t.d.fact 2 (f := .glo "common_elders") rfl)
  obtain ⟨fd_nearest_common, F_nearest_common⟩ := c.t.d.def_ 3 (d := dd_nearest_common) rfl
  have g_nearest_common := He.glo_ok X G (c.t.d.fact 3 (f := .glo "nearest_common") rfl)
  obtain ⟨fd_way_up, F_way_up⟩ := c.t.d.def_ 4 (d := dd_way_up) rfl
  have g_way_up := He.glo_ok X G (c.t.d.fact 4 (f := .glo "way_up") rfl)
  obtain ⟨fd__law_box, F__law_box⟩ := c.t.d.def_ 5 (d := dd__law_box) rfl
  have g__law_box := He.glo_ok X G (c.t.d.fact 5 (f := .glo "_law_box") rfl)
  obtain ⟨fd__law_take, F__law_take⟩ := c.t.d.def_ 6 (d := dd__law_take) rfl
  have g__law_take := He.glo_ok X G (c.t.d.fact 6 (f := .glo "_law_take") rfl)
  obtain ⟨fd__law_pick, F__law_pick⟩ := c.t.d.def_ 7 (d := dd__law_pick) rfl
  have g__law_pick := He.glo_ok X G (c.t.d.fact 7 (f := .glo "_law_pick") rfl)
  obtain ⟨fd__law_web, F__law_web⟩ := c.t.d.def_ 8 (d := dd__law_web) rfl
  have g__law_web := He.glo_ok X G (c.t.d.fact 8 (f := .glo "_law_web") rfl)
  obtain ⟨fd__law_elders, F__law_elders⟩ := c.t.d.def_ 9 (d := dd__law_elders) rfl
  have g__law_elders := He.glo_ok X G (c.t.d.fact 9 (f := .glo "_law_elders") rfl)
  obtain ⟨fd__law_ways, F__law_ways⟩ := c.t.d.def_ 10 (d := dd__law_ways) rfl
  have g__law_ways := He.glo_ok X G (c.t.d.fact 10 (f := .glo "_law_ways") rfl)
  obtain ⟨fd__law_heard, F__law_heard⟩ := c.t.d.def_ 11 (d := dd__law_heard) rfl
  have g__law_heard := He.glo_ok X G (c.t.d.fact 11 (f := .glo "_law_heard") rfl)
  obtain ⟨fd__law_pair_right, F__law_pair_right⟩ := c.t.d.def_ 12 (d := dd__law_pair_right) rfl
  have g__law_pair_right := He.glo_ok X G (c.t.d.fact 12 (f := .glo "_law_pair_right") rfl)
  obtain ⟨fd_law, F_law⟩ := c.t.d.def_ 13 (d := dd_law) rfl
  have g_law := He.glo_ok X G (c.t.d.fact 13 (f := .glo "law") rfl)
  have b_len := He.free_ok X G (c.t.d.fact 14 (f := .free "len") rfl)
  have b_tuple := He.free_ok X G (c.t.d.fact 15 (f := .free "tuple") rfl)
  have b_sorted := He.free_ok X G (c.t.d.fact 16 (f := .free "sorted") rfl)
  have b_list := He.free_ok X G (c.t.d.fact 17 (f := .free "list") rfl)
  have b_abs := He.free_ok X G (c.t.d.fact 18 (f := .free "abs") rfl)
  have b_int := He.free_ok X G (c.t.d.fact 19 (f := .free "int") rfl)
  have b_range := He.free_ok X G (c.t.d.fact 20 (f := .free "range") rfl)
  have b_max := He.free_ok X G (c.t.d.fact 21 (f := .free "max") rfl)
  have b_enumerate := He.free_ok X G (c.t.d.fact 22 (f := .free "enumerate") rfl)
  have b_set := He.free_ok X G (c.t.d.fact 23 (f := .free "set") rfl)
  have b_repr := He.free_ok X G (c.t.d.fact 24 (f := .free "repr") rfl)
  have b_isinstance := He.free_ok X G (c.t.d.fact 25 (f := .free "isinstance") rfl)
  have b_KeyError := He.free_ok X G (c.t.d.fact 26 (f := .free "KeyError") rfl)
  have b_min := He.free_ok X G (c.t.d.fact 27 (f := .free "min") rfl)
  have b_dict := He.free_ok X G (c.t.d.fact 28 (f := .free "dict") rfl)
  have g_NoObject := He.glo_ok X G (c.t.d.fact 29 (f := .glo "NoObject") rfl)
  have b_super := He.free_ok X G (c.t.d.fact 30 (f := .free "super") rfl)
  have exx := c.more
  unfold ex at exx
  obtain ⟨x_NoObject, exx⟩ := (Bool.and_eq_true _ _).mp exx
  obtain ⟨x_ext, exx⟩ := (Bool.and_eq_true _ _).mp exx
  have xb_NoObject_KeyError := exx
  have E_NoObject := supB_ok x_NoObject g_NoObject b_super hfile htop (by decide +kernel) (by decide) (fun _ _ _ _ _ _ _ _ _ _ _ _ _ _ _ _ _ _ _ _ _ _ _ => rfl) rfl rfl rfl (by decide)
  have ext : TabOk K mg exTab := exmB_ok x_ext fun q hq => by
    simp only [exTab, List.mem_cons, List.mem_nil_iff, or_false] at hq
    subst hq; exact ⟨by assumption, by assumption⟩
  have kb_NoObject_KeyError := kitBb_ok xb_NoObject_KeyError
  have e := hfa.symm.trans g_law
  cases e
  have bb := FunD.bindsA (ps := ["_law_script"]) F_law fun _ _ _ _ _ _ us hl => match us, hl with | [_], _ => rfl
  refine ⟨fd_law, fun s v => bb s [v] rfl, fun base _ _ TB_law => ?_⟩
  have hT_law : ((He.cT K ("law", none)).2, ("law.<locals>.<lambda>" : Str)) ∈ ([((He.cT K ("law", none)).2, ("law.<locals>.<lambda>" : Str))] : List (Addr × Str)) := by simp
  have hU_law : ∀ q ∈ ([((He.cT K ("law", none)).2, ("law.<locals>.<lambda>" : Str))] : List (Addr × Str)), q.1 = (He.cT K ("law", none)).2 → q.2 = ("law.<locals>.<lambda>" : Str) := fun q hq _ => by rw [List.mem_singleton.mp hq]
  have C_need_there := ok_need_there (P := P) (w := w) (base := base) (T := [((He.cT K ("law", none)).2, ("law.<locals>.<lambda>" : Str))]) F_need_there g_need_there E_NoObject
  have C_elders := ok_elders (P := P) (w := w) (base := base) (T := [((He.cT K ("law", none)).2, ("law.<locals>.<lambda>" : Str))]) F_elders g_elders b_len b_tuple b_sorted b_list C_need_there
  have C_common_elders := ok_common_elders (P := P) (w := w) (base := base) (T := [((He.cT K ("law", none)).2, ("law.<locals>.<lambda>" : Str))]) F_common_elders g_common_elders b_tuple C_elders
  have C_nearest_common := ok_nearest_common (P := P) (w := w) (base := base) (T := [((He.cT K ("law", none)).2, ("law.<locals>.<lambda>" : Str))]) F_nearest_common g_nearest_common b_tuple C_common_elders C_elders
  have C_way_up := ok_way_up (P := P) (w := w) (base := base) (T := [((He.cT K ("law", none)).2, ("law.<locals>.<lambda>" : Str))]) F_way_up g_way_up b_len b_sorted b_list C_need_there
  have C__law_box := ok__law_box (P := P) (w := w) (base := base) (T := [((He.cT K ("law", none)).2, ("law.<locals>.<lambda>" : Str))]) F__law_box g__law_box b_len b_abs b_int
  have C__law_take := ok__law_take (P := P) (w := w) (base := base) (T := [((He.cT K ("law", none)).2, ("law.<locals>.<lambda>" : Str))]) F__law_take g__law_take b_int
  have C__law_pick := ok__law_pick (P := P) (w := w) (base := base) (T := [((He.cT K ("law", none)).2, ("law.<locals>.<lambda>" : Str))]) F__law_pick g__law_pick b_len C__law_take
  have C__law_web := ok__law_web (P := P) (w := w) (base := base) (T := [((He.cT K ("law", none)).2, ("law.<locals>.<lambda>" : Str))]) F__law_web g__law_web b_range b_max b_len b_tuple b_enumerate C__law_take C__law_pick
  have C__law_elders := ok__law_elders (P := P) (w := w) (base := base) (T := [((He.cT K ("law", none)).2, ("law.<locals>.<lambda>" : Str))]) F__law_elders g__law_elders b_range b_len b_list b_sorted b_set
  have C__law_ways := ok__law_ways (P := P) (w := w) (base := base) (T := [((He.cT K ("law", none)).2, ("law.<locals>.<lambda>" : Str))]) F__law_ways g__law_ways b_range b_len
  have H__law_heard := ok__law_heard (P := P) (w := w) (base := base) (T := [((He.cT K ("law", none)).2, ("law.<locals>.<lambda>" : Str))]) F__law_heard g__law_heard b_repr b_isinstance b_KeyError E_NoObject kb_NoObject_KeyError ext
  have C__law_pair_right := ok__law_pair_right (P := P) (w := w) (base := base) (T := [((He.cT K ("law", none)).2, ("law.<locals>.<lambda>" : Str))]) F__law_pair_right g__law_pair_right b_repr b_tuple C__law_elders C_common_elders C_nearest_common
  exact okG_law F_law (code_ref F_law rfl) TB_law hT_law hU_law b_range b_list b_repr b_tuple b_min b_len b_dict H__law_heard C__law_box C__law_web C__law_pick C_elders C__law_elders C__law_pair_right C__law_ways C_way_up C_common_elders C_nearest_common
end K61
set_option Elab.async false
set_option linter.all false
set_option maxRecDepth 100000
set_option maxHeartbeats 0
open PySem PySem.W PySem.Calls PyProof.Rows
theorem PySem.Challenge.cw_keptwhole_k61_whole_nearest_common_elder_holds : PySem.Challenge.rw_keptwhole_k61_whole_nearest_common_elder.Holds := by
  w_on; o_law
  refine HandSHeadRun.head_any (r := OpenLaw.row PySem.Challenge.rw_keptwhole_k61_whole_nearest_common_elder) (q := view (OpenLaw.row PySem.Challenge.rw_keptwhole_k61_whole_nearest_common_elder).prog [17]) (H := K61.hk) (ob := K61.ob) (M := 8000) (loose := K61.loose) (d := HandSHeadRun.topDef (OpenLaw.row PySem.Challenge.rw_keptwhole_k61_whole_nearest_common_elder).prog 17) (kwd := []) K61.ob_eq
    (by kernel_rfl) (fun s => by kernel_rfl) K61.run (by kernel_rfl) (by kernel_rfl) (by kernel_rfl) (by rfl) (by first | assumption | decide +kernel) (by decide +kernel) ⟨rfl, rfl, rfl, rfl, rfl, by decide +kernel⟩ ?hw ?hc
  case hw => w_witness2
  case hc =>
    refine Kw.walk_G (l := PySem.Challenge.rw_keptwhole_k61_whole_nearest_common_elder) (n := 63) (k := 8) (x := "_law_script") (m := K61.f_law) rfl (by decide) (by kernel_rfl) ⟨rfl, by decide, by decide⟩ K61.pure ?F
    intro w mg fa h Y G hmg0
    obtain ⟨K, KX, c⟩ := Y
    have hmg : mg ("law" : PySem.Str) = some (.ref fa) := by
      have e : (HandSHeadRun.topDef (OpenLaw.row PySem.Challenge.rw_keptwhole_k61_whole_nearest_common_elder).prog 17).name = ("law" : PySem.Str) := by kernel_rfl
      rw [← e]
      exact hmg0
    obtain ⟨fd, hb, hF⟩ := K61.facts (P := (PySem.Challenge.rw_keptwhole_k61_whole_nearest_common_elder).prog) (w := w) (T := []) KX G hmg c (by kernel_rfl) (by kernel_rfl)
    exact ⟨K, fd, [He.cT K ("law", none)], [((He.cT K ("law", none)).2, ("law.<locals>.<lambda>" : Str))], KX,
      (fun p hp => by
        simp only [List.mem_cons, List.not_mem_nil, or_false] at hp
        rw [hp]; exact c.empty _ (.head _)),
      (fun p hp => by
        simp only [List.mem_cons, List.not_mem_nil, or_false] at hp
        rw [hp]; exact c.out _ (.head _)),
      (fun p hp => by
        simp only [List.mem_cons, List.not_mem_nil, or_false] at hp
        rw [hp]; exact PySem.W.codeHd_of_K KX (c.hd _ (.head _))),
      (fun p hp => by
        simp only [List.mem_cons, List.not_mem_nil, or_false] at hp
        rw [hp]; exact ⟨_, (.head _)⟩), hb, fun base kb nb tb => hF base kb nb (tb _ (.head _))⟩
